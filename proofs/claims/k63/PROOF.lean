import PyProof.Rows.All
import Wide.All
import OpenK.AllK
import Wide.FinOn
import HandS.ForMost
import HandS.Lambda
import HandS.Property
import HandS.Defaults
import HandS.TupAny
import HandS.Deep
import HandS.IsInst
import HandS.Style
import HandS.More
import HandS.TupLen
import HandS.Small
import HandS.DictTup
import KE.GoesEnum
import HandS.Iter
import HandS.DictComp
import HandS.Strs
import HandS.Ends
import HandS.SlotsOwn
import HandS.Text
import HandS.Star
import KE.KCallOwn
import KE.KRevSl
import PyProof.Rows.SortShellAny
import PyProof.TupleOfSeq
import HandS.Zip
import HandS.FStr
import HandS.MakeKw
import HandS.DictSub
import HandS.Conv
import HandS.TryOnly
import HandS.SetFor
import HandS.TupMul
import HandS.Set
import KE.KDictZip
import HandS.SetKeys
import KE.KDictWalk
import KE.KEqDict
import KE.KDictList
import HandS.ClsMeth
import HandS.OwnEq
import KE.KExcSuper
import HandS.Exc
import HandS.ExcIs
import HandS.EndTab
import KE.KTryMore
import KE.KExcIs
import HandS.HotCalls
import KE.KNestM
import HandS.HeadHook3
import PySem.Challenge.RW_fewroads_k63_caps_colours_apart_judged
set_option Elab.async false
set_option linter.all false
set_option maxRecDepth 100000
set_option maxHeartbeats 4000000
/-! DL1: data as values. D: what a Python value is, as Lean data; SO: the objects that may change, by their addresses; how both lie in the abstract heap of HandS; the judgements over them -/
namespace L2.DL
open PySem PySem.Spec PyProof.Rows

/-- a value as data: lst, dic, ins are lists, dicts, instances that nobody changes any more; src a list from outside, kt a tuple that the top has written, tf a tuple of which it is known that it has no dict of its own; obj: an object by its address (one that may change, or one that is not looked into) -/
inductive D where
  | non | bl (b : Bool) | int (i : Int) | str (x : Str) | ty (n : String)
  | tup (xs : List D) | lst (xs : List D) | src (xs : List D) | kt (xs : List D) | tf (xs : List D) | dic (t : Bool) (kvs : List (D × D)) | ins (C : Addr) (fs : List (Str × D)) | obj (a : Addr) | fd (t : Bool) (kvs : List (D × D)) | gh (d : D) (v : V)
/-- an object that may change; err: an exception of the class of that name, with what it keeps; tb: a table of code objects, all of one name -/
inductive DO where
  | lst (xs : List D) | dic (t : Bool) (kvs : List (D × D)) | ins (C : Addr) (fs : List (Str × D)) | err (n : Str) (fs : List (Str × D)) | tb (q : Str)
abbrev SO := Addr → Option DO
def SO.set (S : SO) (a : Addr) (o : DO) : SO := fun b => if b = a then some o else S b
def SO.del (S : SO) (a : Addr) : SO := fun b => if b = a then none else S b
theorem set_same {S : SO} {a : Addr} {o : DO} : S.set a o a = some o := if_pos rfl
theorem set_ne {S : SO} {a b : Addr} {o : DO} (h : b ≠ a) : S.set a o b = S b := if_neg h
theorem set_set {S : SO} {a : Addr} {o u : DO} : (S.set a o).set a u = S.set a u := by
  funext b
  unfold SO.set
  split <;> rfl
theorem del_set {S : SO} {a : Addr} {o : DO} (h : S a = none) : (S.set a o).del a = S := by
  funext b
  unfold SO.set SO.del
  split
  · rename_i e
    rw [e, h]
  · rename_i e
    exact if_neg e
theorem so_ne {S : SO} {a b : Addr} {o : DO} (h : S a = some o) (h' : S b = none) : a ≠ b := by
  intro e
  rw [e, h'] at h
  cases h

def keyD : Key → D
  | .inl i => .int i
  | .inr x => .str x

/-- a tuple, a list that is read and that nobody changes -/
def TupAt (S : SO) (H : Hp) (a : Addr) (vs : List V) : Prop := S a = none ∧ H a = some (.tup vs)
def KTup (K : PySem.W.Frag) (a : Addr) (vs : List V) : Prop := ∃ (o : Obj) (its : Array Value) (n : Nat), K.lookup a = some o ∧ o.cls = .type "tuple" ∧ o.data = .seq its n ∧ its.size ≤ sizeLine ∧ Vals vs its.toList
def LstAt (K : PySem.W.Frag) (S : SO) (H : Hp) (a : Addr) (vs : List V) : Prop := S a = none ∧ Rd H a (.lst vs) ∨
  ∃ (o : Obj) (its : Array Value) (n : Nat), K.lookup a = some o ∧ o.cls = .type "list" ∧ o.dict = none ∧ o.data = .seq its n ∧ its.size ≤ sizeLine ∧ Vals vs its.toList
def TfAt (S : SO) (H : Hp) (a : Addr) (vs : List V) : Prop := S a = none ∧ ∃ o, H a = some (.frz o (.tup vs)) ∧ o.dict = none ∧ o.cls = .type "tuple"
theorem TfAt.sq {K : PySem.W.Frag} {S : SO} {H : Hp} {a : Addr} {vs : List V} (h : TfAt S H a vs) : SqT K H a vs := let ⟨_, o, h, _⟩ := h; .inl (.inr ⟨o, h⟩)
theorem TupAt.sq {K : PySem.W.Frag} {S : SO} {H : Hp} {a : Addr} {vs : List V} (h : TupAt S H a vs) : SqT K H a vs := .of h.2
theorem KTup.sq {K : PySem.W.Frag} {H : Hp} {a : Addr} {vs : List V} (h : KTup K a vs) : SqT K H a vs := .inr h
theorem LstAt.sq {K : PySem.W.Frag} {S : SO} {H : Hp} {a : Addr} {vs : List V} (h : LstAt K S H a vs) : SqL K H a vs := h.elim (fun x => .inl x.2) .inr

mutual
/-- the value d lies at v -/
def Rel (K : PySem.W.Frag) (S : SO) (H : Hp) : D → V → Prop
  | .non, v => v = .non
  | .bl b, v => v = .bl b
  | .int i, v => v = .int i
  | .str x, v => v = .str x
  | .ty n, v => v = .ty n
  | .obj a, v => v = .ref a
  | .tup ds, v => ∃ a vs, v = .ref a ∧ TupAt S H a vs ∧ Rels K S H ds vs
  | .lst ds, v => ∃ a vs, v = .ref a ∧ S a = none ∧ H a = some (.lst vs) ∧ Rels K S H ds vs
  | .kt ds, v => ∃ a vs, v = .ref a ∧ KTup K a vs ∧ Rels K S H ds vs
  | .tf ds, v => ∃ a vs, v = .ref a ∧ TfAt S H a vs ∧ Rels K S H ds vs
  | .src ds, v => ∃ a vs, v = .ref a ∧ LstAt K S H a vs ∧ Rels K S H ds vs
  | .dic t kvs, v => ∃ a, v = .ref a ∧ S a = none ∧ ((∃ l, t = false ∧ H a = some (.dK l) ∧ RelK K S H kvs l) ∨ (∃ l, t = true ∧ H a = some (.dT l) ∧ RelT K S H kvs l))
  | .ins C fs, v => ∃ a dx l, v = .ref a ∧ S a = none ∧ H a = some (.ins C dx l) ∧ RelF K S H fs l
  | .gh d u, v => v = u ∧ Rel K S H d u
  | .fd t kvs, v => ∃ a, v = .ref a ∧ S a = none ∧ ((∃ o l, t = false ∧ H a = some (.frz o (.dK l)) ∧ RelK K S H kvs l) ∨ (∃ o l, t = true ∧ H a = some (.frz o (.dT l)) ∧ RelT K S H kvs l))
def Rels (K : PySem.W.Frag) (S : SO) (H : Hp) : List D → List V → Prop
  | [], vs => vs = []
  | d :: ds, vs => ∃ v r, vs = v :: r ∧ Rel K S H d v ∧ Rels K S H ds r
def RelK (K : PySem.W.Frag) (S : SO) (H : Hp) : List (D × D) → List (Key × V) → Prop
  | [], l => l = []
  | (k, d) :: kvs, l => ∃ q v r, l = (q, v) :: r ∧ k = keyD q ∧ Rel K S H d v ∧ RelK K S H kvs r
def RelT (K : PySem.W.Frag) (S : SO) (H : Hp) : List (D × D) → List (List Key × V) → Prop
  | [], l => l = []
  | (k, d) :: kvs, l => ∃ q v r, l = (q, v) :: r ∧ k = .tup (q.map keyD) ∧ Rel K S H d v ∧ RelT K S H kvs r
def RelF (K : PySem.W.Frag) (S : SO) (H : Hp) : List (Str × D) → List (Str × V) → Prop
  | [], l => l = []
  | (x, d) :: fs, l => ∃ v r, l = (x, v) :: r ∧ Rel K S H d v ∧ RelF K S H fs r
end

/-- at a: an exception of the class at C, its own dict d -/
def ErrO (a C : Addr) (d : Option Addr) : HO := .ext fun h => ∃ (oe : Obj) (vs : Array Value), h.get? a = some oe ∧ oe.cls = .ref C ∧ oe.dict = d ∧ oe.data = .fields vs
/-- what an exception keeps -/
def ErrF (K : PySem.W.Frag) (S : SO) (H : Hp) : Option Addr → List (Str × D) → Prop
  | none, fs => fs = []
  | some dx, fs => ∃ l, S dx = none ∧ H dx = some (.xd l) ∧ RelF K S H fs l
/-- how a changing object lies -/
def ObjAt (K : PySem.W.Frag) (S : SO) (H : Hp) (a : Addr) : DO → Prop
  | .lst ds => ∃ vs, H a = some (.lst vs) ∧ Rels K S H ds vs
  | .dic t kvs => (∃ l, t = false ∧ H a = some (.dK l) ∧ RelK K S H kvs l) ∨ (∃ l, t = true ∧ H a = some (.dT l) ∧ RelT K S H kvs l)
  | .ins C fs => ∃ dx l, H a = some (.ins C dx l) ∧ RelF K S H fs l
  | .err n fs => ∃ C d, PySem.W.nsIn K mainGlobals n = some (some (.ref C)) ∧ H a = some (ErrO a C d) ∧ ErrF K S H d fs
  | .tb q => ∃ ps : Array Value, H a = some (.tbl ps) ∧ TriplesOk ps.toList ∧ ∀ (pos : Pos) (cv : Value), codeAmong pos ps.toList = some cv → ∃ c, cv = .ref c ∧ S c = none ∧ H c = some (LamX.CodeO c q)
def SRel (K : PySem.W.Frag) (S : SO) (H : Hp) : Prop := ∀ a o, S a = some o → ObjAt K S H a o
/-- the step from one state to a later one: what nobody changes stays -/
def Nx (S : SO) (H : Hp) (S' : SO) (H' : Hp) : Prop := ∀ a o, S a = none → H a = some o → S' a = none ∧ H' a = some o
theorem Nx.refl (S : SO) (H : Hp) : Nx S H S H := fun _ _ h h' => ⟨h, h'⟩
theorem Nx.trans {S S1 S2 : SO} {H H1 H2 : Hp} (x : Nx S H S1 H1) (y : Nx S1 H1 S2 H2) : Nx S H S2 H2 := fun a o h h' => let ⟨p, q⟩ := x a o h h'; y a o p q

section
variable {K : PySem.W.Frag} {S S' : SO} {H H' : Hp}
theorem TfAt.nx {a : Addr} {vs : List V} (x : Nx S H S' H') (h : TfAt S H a vs) : TfAt S' H' a vs := let ⟨n, o, e, r⟩ := h; let ⟨p, q⟩ := x a _ n e; ⟨p, o, q, r⟩
theorem TupAt.nx {a : Addr} {vs : List V} (x : Nx S H S' H') (h : TupAt S H a vs) : TupAt S' H' a vs := x a _ h.1 h.2
theorem LstAt.nx {a : Addr} {vs : List V} (x : Nx S H S' H') (h : LstAt K S H a vs) : LstAt K S' H' a vs := by
  rcases h with ⟨h0, h | ⟨o, h⟩⟩ | h
  · obtain ⟨p, q⟩ := x a _ h0 h
    exact .inl ⟨p, .inl q⟩
  · obtain ⟨p, q⟩ := x a _ h0 h
    exact .inl ⟨p, .inr ⟨o, q⟩⟩
  · exact .inr h
mutual
theorem Rel.nx (x : Nx S H S' H') : ∀ (d : D) (v : V), Rel K S H d v → Rel K S' H' d v
  | .non, _, h => h
  | .bl _, _, h => h
  | .int _, _, h => h
  | .str _, _, h => h
  | .ty _, _, h => h
  | .obj _, _, h => h
  | .tup ds, v, h => by
    obtain ⟨a, vs, e, t, r⟩ := h
    exact ⟨a, vs, e, t.nx x, Rels.nx x ds vs r⟩
  | .lst ds, v, h => by
    obtain ⟨a, vs, e, n, t, r⟩ := h
    obtain ⟨p, q⟩ := x a _ n t
    exact ⟨a, vs, e, p, q, Rels.nx x ds vs r⟩
  | .kt ds, v, h => by
    obtain ⟨a, vs, e, t, r⟩ := h
    exact ⟨a, vs, e, t, Rels.nx x ds vs r⟩
  | .tf ds, v, h => by
    obtain ⟨a, vs, e, t, r⟩ := h
    exact ⟨a, vs, e, t.nx x, Rels.nx x ds vs r⟩
  | .src ds, v, h => by
    obtain ⟨a, vs, e, t, r⟩ := h
    exact ⟨a, vs, e, t.nx x, Rels.nx x ds vs r⟩
  | .dic t kvs, v, h => by
    obtain ⟨a, e, n, h⟩ := h
    refine ⟨a, e, ?_⟩
    rcases h with ⟨l, ht, hl, r⟩ | ⟨l, ht, hl, r⟩
    · obtain ⟨p, q⟩ := x a _ n hl
      exact ⟨p, .inl ⟨l, ht, q, RelK.nx x kvs l r⟩⟩
    · obtain ⟨p, q⟩ := x a _ n hl
      exact ⟨p, .inr ⟨l, ht, q, RelT.nx x kvs l r⟩⟩
  | .ins C fs, v, h => by
    obtain ⟨a, dx, l, e, n, hl, r⟩ := h
    obtain ⟨p, q⟩ := x a _ n hl
    exact ⟨a, dx, l, e, p, q, RelF.nx x fs l r⟩
  | .gh d u, v, h => ⟨h.1, Rel.nx x d u h.2⟩
  | .fd t kvs, v, h => by
    obtain ⟨a, e, n, h⟩ := h
    refine ⟨a, e, ?_⟩
    rcases h with ⟨o, l, ht, hl, r⟩ | ⟨o, l, ht, hl, r⟩
    · obtain ⟨p, q⟩ := x a _ n hl
      exact ⟨p, .inl ⟨o, l, ht, q, RelK.nx x kvs l r⟩⟩
    · obtain ⟨p, q⟩ := x a _ n hl
      exact ⟨p, .inr ⟨o, l, ht, q, RelT.nx x kvs l r⟩⟩
theorem Rels.nx (x : Nx S H S' H') : ∀ (ds : List D) (vs : List V), Rels K S H ds vs → Rels K S' H' ds vs
  | [], _, h => h
  | d :: ds, _, h => by
    obtain ⟨v, r, e, h1, h2⟩ := h
    exact ⟨v, r, e, Rel.nx x d v h1, Rels.nx x ds r h2⟩
theorem RelK.nx (x : Nx S H S' H') : ∀ (kvs : List (D × D)) (l : List (Key × V)), RelK K S H kvs l → RelK K S' H' kvs l
  | [], _, h => h
  | (k, d) :: kvs, _, h => by
    obtain ⟨q, v, r, e, hk, h1, h2⟩ := h
    exact ⟨q, v, r, e, hk, Rel.nx x d v h1, RelK.nx x kvs r h2⟩
theorem RelT.nx (x : Nx S H S' H') : ∀ (kvs : List (D × D)) (l : List (List Key × V)), RelT K S H kvs l → RelT K S' H' kvs l
  | [], _, h => h
  | (k, d) :: kvs, _, h => by
    obtain ⟨q, v, r, e, hk, h1, h2⟩ := h
    exact ⟨q, v, r, e, hk, Rel.nx x d v h1, RelT.nx x kvs r h2⟩
theorem RelF.nx (x : Nx S H S' H') : ∀ (fs : List (Str × D)) (l : List (Str × V)), RelF K S H fs l → RelF K S' H' fs l
  | [], _, h => h
  | (k, d) :: kvs, _, h => by
    obtain ⟨v, r, e, h1, h2⟩ := h
    exact ⟨v, r, e, Rel.nx x d v h1, RelF.nx x kvs r h2⟩
end
theorem ErrF.nx (x : Nx S H S' H') : ∀ {d : Option Addr} {fs : List (Str × D)}, ErrF K S H d fs → ErrF K S' H' d fs
  | none, _, h => h
  | some dx, fs, ⟨l, h1, h2, h3⟩ => let ⟨p, q⟩ := x dx _ h1 h2; ⟨l, p, q, RelF.nx x fs l h3⟩
theorem ObjAt.nx {a : Addr} (x : Nx S H S' H') (e : H' a = H a) : ∀ {o : DO}, ObjAt K S H a o → ObjAt K S' H' a o
  | .lst ds, h => by
    obtain ⟨vs, h1, h2⟩ := h
    exact ⟨vs, e.trans h1, Rels.nx x ds vs h2⟩
  | .dic t kvs, h => by
    rcases h with ⟨l, ht, h1, h2⟩ | ⟨l, ht, h1, h2⟩
    · exact .inl ⟨l, ht, e.trans h1, RelK.nx x kvs l h2⟩
    · exact .inr ⟨l, ht, e.trans h1, RelT.nx x kvs l h2⟩
  | .ins C fs, h => by
    obtain ⟨dx, l, h1, h2⟩ := h
    exact ⟨dx, l, e.trans h1, RelF.nx x fs l h2⟩
  | .err n fs, h => by
    obtain ⟨C, d, h0, h1, h2⟩ := h
    exact ⟨C, d, h0, e.trans h1, h2.nx x⟩
  | .tb q, h => by
    obtain ⟨ps, h1, h2, h3⟩ := h
    refine ⟨ps, e.trans h1, h2, fun pos cv hc => ?_⟩
    obtain ⟨c, e1, e2, e3⟩ := h3 pos cv hc
    exact ⟨c, e1, x c _ e2 e3⟩
theorem ObjAt.there {a : Addr} : ∀ {o : DO}, ObjAt K S H a o → ∃ u, H a = some u
  | .lst ds, ⟨_, h1, _⟩ => ⟨_, h1⟩
  | .dic t kvs, .inl ⟨_, _, h1, _⟩ => ⟨_, h1⟩
  | .dic t kvs, .inr ⟨_, _, h1, _⟩ => ⟨_, h1⟩
  | .ins C fs, ⟨_, _, h1, _⟩ => ⟨_, h1⟩
  | .err n fs, ⟨_, _, _, h1, _⟩ => ⟨_, h1⟩
  | .tb q, ⟨_, h1, _⟩ => ⟨_, h1⟩
theorem SRel.free (x : SRel K S H) {a : Addr} (h : H a = none) : S a = none := by
  cases q : S a with
  | none => rfl
  | some o =>
    obtain ⟨u, e⟩ := (x a o q).there
    rw [h] at e
    cases e
/-- a new thing that is tracked and not changed -/
theorem nx_new {p : Addr} {o : HO} (h : H p = none) : Nx S H S (upd H p o) := fun a u h1 h2 => ⟨h1, by rw [upd_ne (ne_of_none h2 h)]; exact h2⟩
theorem SRel.new (x : SRel K S H) {p : Addr} {o : HO} (h : H p = none) : SRel K S (upd H p o) := fun a u q => by
  have hu := x a u q
  obtain ⟨w, e⟩ := hu.there
  exact hu.nx (nx_new h) (by rw [upd_ne (ne_of_none e h)])
/-- a new object -/
theorem nx_obj {p : Addr} {o : DO} {u : HO} (h : H p = none) (hs : S p = none) : Nx S H (S.set p o) (upd H p u) := fun a w h1 h2 => by
  have ne := ne_of_none h2 h
  exact ⟨by rw [set_ne ne]; exact h1, by rw [upd_ne ne]; exact h2⟩
/-- an object is changed -/
theorem nx_put {p : Addr} {o o' : DO} {u : HO} (hs : S p = some o) : Nx S H (S.set p o') (upd H p u) := fun a w h1 h2 => by
  have ne : a ≠ p := (so_ne hs h1).symm
  exact ⟨by rw [set_ne ne]; exact h1, by rw [upd_ne ne]; exact h2⟩
theorem srel_put (x : SRel K S H) {p : Addr} {o : DO} {u : HO} (n : Nx S H (S.set p o) (upd H p u)) (h : ObjAt K (S.set p o) (upd H p u) p o) : SRel K (S.set p o) (upd H p u) := fun a w q => by
  by_cases e : a = p
  · subst e
    rw [set_same] at q
    cases q
    exact h
  · rw [set_ne e] at q
    exact (x a w q).nx n (upd_ne e)
theorem Rels.length : ∀ {ds : List D} {vs : List V}, Rels K S H ds vs → ds.length = vs.length
  | [], _, h => by
    have h' : _ = [] := h
    rw [h']
    rfl
  | d :: ds, _, h => by
    obtain ⟨v, r, e, _, h2⟩ := h
    rw [e, List.length_cons, List.length_cons, h2.length]
theorem Rels.app : ∀ {ds es : List D} {vs us : List V}, Rels K S H ds vs → Rels K S H es us → Rels K S H (ds ++ es) (vs ++ us)
  | [], _, _, _, h, h' => by
    have e : _ = [] := h
    subst e
    exact h'
  | d :: ds, es, _, us, h, h' => by
    obtain ⟨v, r, e, h1, h2⟩ := h
    subst e
    exact ⟨v, r ++ us, rfl, h1, h2.app h'⟩
theorem Rels.one {d : D} {v : V} (h : Rel K S H d v) : Rels K S H [d] [v] := ⟨v, [], rfl, h, rfl⟩
theorem Rels.get : ∀ {ds : List D} {vs : List V} {i : Nat} {d : D}, Rels K S H ds vs → ds[i]? = some d → ∃ v, vs[i]? = some v ∧ Rel K S H d v
  | [], _, _, _, _, e => by simp at e
  | d' :: ds, _, 0, d, h, e => by
    obtain ⟨v, r, rfl, h1, h2⟩ := h
    have e' : d' = d := Option.some.inj e
    subst e'
    exact ⟨v, rfl, h1⟩
  | d' :: ds, _, i + 1, d, h, e => by
    obtain ⟨v, r, rfl, h1, h2⟩ := h
    exact h2.get (i := i) e
theorem Rels.take : ∀ {ds : List D} {vs : List V} (n : Nat), Rels K S H ds vs → Rels K S H (ds.take n) (vs.take n)
  | _, _, 0, _ => rfl
  | [], _, n + 1, h => by
    have h' : _ = [] := h
    rw [h']
    exact rfl
  | d :: ds, _, n + 1, h => by
    obtain ⟨v, r, rfl, h1, h2⟩ := h
    exact ⟨v, r.take n, rfl, h1, h2.take n⟩
theorem Rels.drop : ∀ {ds : List D} {vs : List V} (n : Nat), Rels K S H ds vs → Rels K S H (ds.drop n) (vs.drop n)
  | _, _, 0, h => h
  | [], _, n + 1, h => by
    have h' : _ = [] := h
    rw [h']
    exact rfl
  | d :: ds, _, n + 1, h => by
    obtain ⟨v, r, rfl, h1, h2⟩ := h
    exact h2.drop n
theorem Rels.two {a b : D} {vs : List V} (h : Rels K S H [a, b] vs) : ∃ v w, vs = [v, w] ∧ Rel K S H a v ∧ Rel K S H b w := by
  obtain ⟨v, r, rfl, h1, w, r', rfl, h2, h3⟩ := h
  have e : _ = [] := h3
  subst e
  exact ⟨v, w, rfl, h1, h2⟩
theorem RelF.look : ∀ {fs : List (Str × D)} {l : List (Str × V)} {x : Str} {d : D}, RelF K S H fs l → fs.lookup x = some d → ∃ v, l.lookup x = some v ∧ Rel K S H d v
  | [], _, _, _, _, e => by cases e
  | (y, d') :: fs, _, x, d, h, e => by
    obtain ⟨v, r, rfl, h1, h2⟩ := h
    rw [List.lookup_cons] at e
    rw [List.lookup_cons]
    cases q : x == y with
    | true =>
      rw [q] at e
      cases e
      exact ⟨v, rfl, h1⟩
    | false =>
      rw [q] at e
      exact h2.look e
def putD (f : Str) (v : D) : List (Str × D) → List (Str × D)
  | [] => [(f, v)]
  | (g, u) :: r => if g = f then (g, v) :: r else (g, u) :: putD f v r
end

/-! ### the frame's slots -/
abbrev SD := List (Option D)
def RelS (K : PySem.W.Frag) (S : SO) (H : Hp) (sd : SD) (σ : St) : Prop := sd.length = σ.length ∧ ∀ (i : Nat) (d : D), sd[i]? = some (some d) → ∃ v, σ[i]? = some (some v) ∧ Rel K S H d v
structure Sta (K : PySem.W.Frag) (sd : SD) (S : SO) (σ : St) (H : Hp) : Prop where
  s : SRel K S H
  r : RelS K S H sd σ
theorem RelS.nx {K : PySem.W.Frag} {S S' : SO} {H H' : Hp} {sd : SD} {σ : St} (x : Nx S H S' H') (h : RelS K S H sd σ) : RelS K S' H' sd σ :=
  ⟨h.1, fun i d e => let ⟨v, e', r⟩ := h.2 i d e; ⟨v, e', Rel.nx x d v r⟩⟩
theorem Sta.nx {K : PySem.W.Frag} {S S' : SO} {H H' : Hp} {sd : SD} {σ : St} (h : Sta K sd S σ H) (x : Nx S H S' H') (s : SRel K S' H') : Sta K sd S' σ H' := ⟨s, h.r.nx x⟩
theorem Sta.set {K : PySem.W.Frag} {S : SO} {H : Hp} {sd : SD} {σ : St} (h : Sta K sd S σ H) (i : Nat) {d : D} {v : V} (r : Rel K S H d v) : Sta K (sd.set i (some d)) S (σ.set i (some v)) H := by
  refine ⟨h.s, by rw [List.length_set, List.length_set]; exact h.r.1, fun j e q => ?_⟩
  by_cases hj : i = j
  · subst hj
    have hl : i < sd.length := by
      have := (List.getElem?_eq_some_iff.mp q).1
      rwa [List.length_set] at this
    rw [List.getElem?_set_self hl] at q
    cases q
    exact ⟨v, List.getElem?_set_self (by rw [← h.r.1]; exact hl), r⟩
  · rw [List.getElem?_set_ne hj] at q
    obtain ⟨v', e', r'⟩ := h.r.2 j e q
    exact ⟨v', by rw [List.getElem?_set_ne hj]; exact e', r'⟩
end L2.DL

/-! DL2: the judgements over data, lifted from HandS, and the rules of expressions, tests, statements, targets -/
namespace L2.DL
open PySem PySem.Spec PyProof.Rows

abbrev KD := D → SO → Prop
abbrev WE := SD → SO → KD → Prop
abbrev WT := SD → SO → (Bool → SO → Prop) → Prop
abbrev WA := SD → SO → (List D → SO → Prop) → Prop
structure EndsD where
  nx : SD → SO → Prop
  rt : KD
  bk : SD → SO → Prop := fun _ _ => False
  ct : SD → SO → Prop := fun _ _ => False
abbrev WS := EndsD → SD → SO → Prop
abbrev WG := D → SD → SO → (SD → SO → Prop) → Prop
abbrev WGs := List D → SD → SO → (SD → SO → Prop) → Prop

/-- what is wanted of the data answers what is wanted of the values -/
def Ans (K : PySem.W.Frag) (S : SO) (H : Hp) (Q0 : KD) (Q : VK) : Prop := ∀ d S' v H', Q0 d S' → Nx S H S' H' → SRel K S' H' → Rel K S' H' d v → Q v H'
def AnsT (K : PySem.W.Frag) (S : SO) (H : Hp) (Q0 : Bool → SO → Prop) (Q : Bool → Hp → Prop) : Prop := ∀ b S' H', Q0 b S' → Nx S H S' H' → SRel K S' H' → Q b H'
def AnsA (K : PySem.W.Frag) (S : SO) (H : Hp) (Q0 : List D → SO → Prop) (Q : List V → Hp → Prop) : Prop := ∀ ds S' vs H', Q0 ds S' → Nx S H S' H' → SRel K S' H' → Rels K S' H' ds vs → Q vs H'
def AnsS (K : PySem.W.Frag) (S : SO) (H : Hp) (Q0 : SD → SO → Prop) (Q : St → Hp → Prop) : Prop := ∀ sd S' σ H', Q0 sd S' → Nx S H S' H' → Sta K sd S' σ H' → Q σ H'
structure AnsE (K : PySem.W.Frag) (S : SO) (H : Hp) (E0 : EndsD) (E : Ends) : Prop where
  nx : AnsS K S H E0.nx E.nx
  rt : Ans K S H E0.rt E.rt
  bk : AnsS K S H E0.bk E.bk
  ct : AnsS K S H E0.ct E.ct
section
variable {K : PySem.W.Frag} {S S' : SO} {H H' : Hp}
theorem Ans.nx {Q0 : KD} {Q : VK} (a : Ans K S H Q0 Q) (x : Nx S H S' H') : Ans K S' H' Q0 Q := fun d S2 v H2 q y s r => a d S2 v H2 q (x.trans y) s r
theorem AnsT.nx {Q0 : Bool → SO → Prop} {Q : Bool → Hp → Prop} (a : AnsT K S H Q0 Q) (x : Nx S H S' H') : AnsT K S' H' Q0 Q := fun d S2 H2 q y s => a d S2 H2 q (x.trans y) s
theorem AnsA.nx {Q0 : List D → SO → Prop} {Q : List V → Hp → Prop} (a : AnsA K S H Q0 Q) (x : Nx S H S' H') : AnsA K S' H' Q0 Q := fun d S2 v H2 q y s r => a d S2 v H2 q (x.trans y) s r
theorem AnsS.nx {Q0 : SD → SO → Prop} {Q : St → Hp → Prop} (a : AnsS K S H Q0 Q) (x : Nx S H S' H') : AnsS K S' H' Q0 Q := fun d S2 v H2 q y s => a d S2 v H2 q (x.trans y) s
theorem AnsE.go {E0 : EndsD} {E : Ends} (a : AnsE K S H E0 E) (x : Nx S H S' H') : AnsE K S' H' E0 E := ⟨a.nx.nx x, a.rt.nx x, a.bk.nx x, a.ct.nx x⟩
end
def lift (K : PySem.W.Frag) (w : WE) : TE := fun σ H Q => ∃ sd S Q0, Sta K sd S σ H ∧ w sd S Q0 ∧ Ans K S H Q0 Q
def liftT (K : PySem.W.Frag) (w : WT) : TT := fun σ H Q => ∃ sd S Q0, Sta K sd S σ H ∧ w sd S Q0 ∧ AnsT K S H Q0 Q
def liftA (K : PySem.W.Frag) (w : WA) : TA := fun σ H Q => ∃ sd S Q0, Sta K sd S σ H ∧ w sd S Q0 ∧ AnsA K S H Q0 Q
def liftS (K : PySem.W.Frag) (w : WS) : TS := fun E σ H => ∃ sd S E0, Sta K sd S σ H ∧ w E0 sd S ∧ AnsE K S H E0 E
def liftG (K : PySem.W.Frag) (w : WG) : TG := fun v σ H Q => ∃ d sd S Q0, Sta K sd S σ H ∧ Rel K S H d v ∧ w d sd S Q0 ∧ AnsS K S H Q0 Q
def liftGs (K : PySem.W.Frag) (w : WGs) : TGs := fun v σ H Q => ∃ d sd S Q0, Sta K sd S σ H ∧ Rels K S H d v ∧ w d sd S Q0 ∧ AnsS K S H Q0 Q
abbrev DE (X : Cx) (e : Expr) (w : WE) : Prop := PE X e (lift X.K w)
abbrev DT (X : Cx) (e : Expr) (w : WT) : Prop := PT X e (liftT X.K w)
abbrev DW (X : Cx) (e : Expr) (w : WT) : Prop := PW X e (liftT X.K w)
abbrev DA (X : Cx) (es : List Expr) (w : WA) : Prop := PA X es (liftA X.K w)
abbrev DS (X : Cx) (st : Stmt) (w : WS) : Prop := PS X st (liftS X.K w)
abbrev DSs (X : Cx) (st : List Stmt) (w : WS) : Prop := PSs X st (liftS X.K w)
abbrev DG (X : Cx) (tg : Expr) (w : WG) : Prop := PG X tg (liftG X.K w)
abbrev DGs (X : Cx) (tg : List Expr) (w : WGs) : Prop := PGs X tg (liftGs X.K w)

section
variable {X : Cx}
theorem pe_imp {e : Expr} {t t' : TE} (h : PE X e t) (i : ∀ σ H Q, t' σ H Q → t σ H Q) : PE X e t' := ⟨fun pins s σ H Q I q => h.run pins s σ H Q I (i σ H Q q)⟩
theorem pt_imp {e : Expr} {t t' : TT} (h : PT X e t) (i : ∀ σ H Q, t' σ H Q → t σ H Q) : PT X e t' := ⟨fun pins s σ H Q I q => h.run pins s σ H Q I (i σ H Q q)⟩
theorem pw_imp {e : Expr} {t t' : TT} (h : PW X e t) (i : ∀ σ H Q, t' σ H Q → t σ H Q) : PW X e t' := ⟨fun wh pins s σ H Q I q => h.run wh pins s σ H Q I (i σ H Q q)⟩
theorem pa_imp {e : List Expr} {t t' : TA} (h : PA X e t) (i : ∀ σ H Q, t' σ H Q → t σ H Q) : PA X e t' := ⟨fun p pins s σ H Q I q => h.run p pins s σ H Q I (i σ H Q q)⟩
theorem ps_imp {e : Stmt} {t t' : TS} (h : PS X e t) (i : ∀ E σ H, t' E σ H → t E σ H) : PS X e t' := ⟨fun pins s σ H E I q => h.run pins s σ H E I (i E σ H q)⟩
theorem pss_imp {e : List Stmt} {t t' : TS} (h : PSs X e t) (i : ∀ E σ H, t' E σ H → t E σ H) : PSs X e t' := ⟨fun pins s σ H E I q => h.run pins s σ H E I (i E σ H q)⟩
theorem pg_imp {e : Expr} {t t' : TG} (h : PG X e t) (i : ∀ v σ H Q, t' v σ H Q → t v σ H Q) : PG X e t' := ⟨fun pins s σ H v u Q I r q => h.run pins s σ H v u Q I r (i v σ H Q q)⟩
theorem pgs_imp {e : List Expr} {t t' : TGs} (h : PGs X e t) (i : ∀ v σ H Q, t' v σ H Q → t v σ H Q) : PGs X e t' := ⟨fun pins s σ H v u Q I r q => h.run pins s σ H v u Q I r (i v σ H Q q)⟩

/-! ### names, constants -/
def wV (i : Nat) : WE := fun sd S Q => match sd[i]? with
  | some (some d) => Q d S
  | _ => False
def wC (d : D) : WE := fun _ S Q => Q d S
theorem de_v (i : Nat) {x : Str} {pos : Pos} (hN : X.N[i]? = some x := by rfl) (hv : Vis X.env.scope x := by first | exact Or.inl rfl | exact Or.inr (Or.inl rfl) | exact Or.inr (Or.inr rfl)) (hd : (x == ("__debug__" : Str)) = false := by decide)
    (hcd : (x == ("__classdict__" : Str)) = false := by decide) : DE X (.Name x pos) (wV i) := by
  refine pe_imp (pe_var hN hv hd hcd) fun σ H Q ⟨sd, S, Q0, st, q, a⟩ => ?_
  unfold wV at q
  split at q
  · rename_i d e
    obtain ⟨v, e', r⟩ := st.r.2 i d e
    exact ⟨v, e', a _ _ _ _ q (Nx.refl _ _) st.s r⟩
  · exact q.elim
theorem lift_c {d : D} {v : V} (hr : ∀ K S H, Rel K S H d v) : ∀ σ H Q, lift X.K (wC d) σ H Q → tC v σ H Q := fun σ H Q ⟨sd, S, Q0, st, q, a⟩ => a _ _ _ _ q (Nx.refl _ _) st.s (hr _ _ _)
theorem de_int {i j pos} : DE X (.Constant (.int i) j pos) (wC (.int i)) := pe_imp pe_int (lift_c fun _ _ _ => rfl)
theorem de_bl {i j pos} : DE X (.Constant (.bool i) j pos) (wC (.bl i)) := pe_imp pe_bl (lift_c fun _ _ _ => rfl)
theorem de_non {j pos} : DE X (.Constant .none j pos) (wC .non) := pe_imp pe_non (lift_c fun _ _ _ => rfl)
theorem de_str {i j pos} : DE X (.Constant (.str i) j pos) (wC (.str i)) := pe_imp pe_str (lift_c fun _ _ _ => rfl)
theorem de_glob {x : Str} {d : D} {v : V} {u : Value} {pos : Pos} (hg : Gl X x) (hm : X.mg x = some u) (r : RelV v u) (hr : ∀ K S H, Rel K S H d v) (hd : (x == ("__debug__" : Str)) = false := by decide) : DE X (.Name x pos) (wC d) := pe_imp (pe_glob hg hm r hd) (lift_c hr)
theorem de_bltn {x : Str} {d : D} {v : V} {u : Value} {pos : Pos} (hg : Gl X x) (hm : X.mg x = none) (hv : bootBuiltins x = some u) (r : RelV v u) (hr : ∀ K S H, Rel K S H d v) (hn : x ≠ "__name__" := by decide) (hd : (x == ("__debug__" : Str)) = false := by decide) :
    DE X (.Name x pos) (wC d) := pe_imp (pe_bltn hg hm hv r hn hd) (lift_c hr)

/-! ### operators by values -/
abbrev WO := D → D → SO → KD → Prop
abbrev WU := D → SO → KD → Prop
abbrev WL := List D → SO → KD → Prop
def liftO (K : PySem.W.Frag) (w : WO) : R2 := fun v u H Q => ∃ x y S Q0, SRel K S H ∧ Rel K S H x v ∧ Rel K S H y u ∧ w x y S Q0 ∧ Ans K S H Q0 Q
def liftU (K : PySem.W.Frag) (w : WU) : V → Hp → VK → Prop := fun v H Q => ∃ x S Q0, SRel K S H ∧ Rel K S H x v ∧ w x S Q0 ∧ Ans K S H Q0 Q
def liftL (K : PySem.W.Frag) (w : WL) : List V → Hp → VK → Prop := fun v H Q => ∃ x S Q0, SRel K S H ∧ Rels K S H x v ∧ w x S Q0 ∧ Ans K S H Q0 Q
def liftM (K : PySem.W.Frag) (w : D → List D → SO → KD → Prop) : V → List V → Hp → VK → Prop := fun u v H Q => ∃ d x S Q0, SRel K S H ∧ Rel K S H d u ∧ Rels K S H x v ∧ w d x S Q0 ∧ Ans K S H Q0 Q
abbrev DO2 (X : Cx) (f : Value → Value → Sem Value) (w : WO) : Prop := OpR X f (liftO X.K w)
abbrev DO1 (X : Cx) (f : Value → Sem Value) (w : WU) : Prop := UnR X f (liftU X.K w)
abbrev DC (X : Cx) (f : Value) (w : WL) : Prop := CallR X f (liftL X.K w)
variable {a b c : Expr} {wa wb wc : WE} {pos : Pos}
def wO (w : WO) (wa wb : WE) : WE := fun sd S Q => wa sd S fun x S1 => wb sd S1 fun y S2 => w x y S2 Q
def wU (w : WU) (wa : WE) : WE := fun sd S Q => wa sd S fun x S1 => w x S1 Q
theorem two {w : D → D → SO → KD → Prop} {σ : St} {H : Hp} {Q : VK} (h : lift X.K (wO w wa wb) σ H Q) {R : V → V → Hp → VK → Prop}
    (hr : ∀ v u H2 x y S2 Q0, SRel X.K S2 H2 → Rel X.K S2 H2 x v → Rel X.K S2 H2 y u → w x y S2 Q0 → Ans X.K S2 H2 Q0 Q → R v u H2 Q) : lift X.K wa σ H fun v H1 => lift X.K wb σ H1 fun u H2 => R v u H2 Q := by
  obtain ⟨sd, S, Q0, st, q, an⟩ := h
  exact ⟨sd, S, _, st, q, fun x S1 v H1 q1 n1 s1 r1 => ⟨sd, S1, _, st.nx n1 s1, q1, fun y S2 u H2 q2 n2 s2 r2 => hr v u H2 x y S2 Q0 s2 (Rel.nx n2 _ _ r1) r2 q2 (an.nx (n1.trans n2))⟩⟩
theorem de_o {op : Operator} {w : WO} (ho : DO2 X (binaryOp op) w) (ha : DE X a wa) (hb : DE X b wb) : DE X (.BinOp a op b pos) (wO w wa wb) :=
  pe_imp (pe_op ho ha hb) fun σ H Q h => two h fun v u H2 x y S2 Q0 s2 r1 r2 q2 an => ⟨x, y, S2, Q0, s2, r1, r2, q2, an⟩
theorem de_c {op : CmpOp} {w : WO} (ho : DO2 X (compareOp op) w) (ha : DE X a wa) (hb : DE X b wb) (hm : behindInMarks op b = false := by first | exact nomark _ | rfl) : DE X (.Compare a [op] [b] pos) (wO w wa wb) :=
  pe_imp (pe_cmpR ho ha hb hm) fun σ H Q h => two h fun v u H2 x y S2 Q0 s2 r1 r2 q2 an => ⟨x, y, S2, Q0, s2, r1, r2, q2, an⟩
theorem de_u {op : UnaryOp} {w : WU} (ho : DO1 X (unaryOp op) w) (ha : DE X a wa) : DE X (.UnaryOp op a pos) (wU w wa) :=
  pe_imp (pe_un ho ha) fun σ H Q ⟨sd, S, Q0, st, q, an⟩ => ⟨sd, S, _, st, q, fun x S1 v H1 q1 n1 s1 r1 => ⟨x, S1, Q0, s1, r1, q1, an.nx n1⟩⟩
/-- the answer is a truth -/
def isB0 (Q : Bool → SO → Prop) : KD := fun d S => match d with
  | .bl b => Q b S
  | _ => False
structure IsB (Q : Bool → SO → Prop) (d : D) (S : SO) : Prop where
  ex : isB0 Q d S
def isB (Q : Bool → SO → Prop) : KD := fun d S => IsB Q d S
def wB (wa : WE) : WT := fun sd S Q => wa sd S (isB Q)
theorem isB_ans {K : PySem.W.Frag} {S : SO} {H : Hp} {Q0 : Bool → SO → Prop} {Q : Bool → Hp → Prop} (an : AnsT K S H Q0 Q) : Ans K S H (isB Q0) fun x H' => ∃ k, x = .bl k ∧ Q k H' := fun d S' v H' q n s r => by
  have q := q.ex
  cases d with
  | bl k =>
    have e : v = .bl k := r
    exact ⟨k, e, an k S' H' q n s⟩
  | _ => exact q.elim
/-- a comparison as a test -/
theorem dt_c {op : CmpOp} {w : WO} (ho : DO2 X (compareOp op) w) (ha : DE X a wa) (hb : DE X b wb) (hm : behindInMarks op b = false := by first | exact nomark _ | rfl) : DT X (.Compare a [op] [b] pos) (wB (wO w wa wb)) :=
  pt_imp (pt_cmpR ho ha hb hm) fun σ H Q ⟨sd, S, Q0, st, q, an⟩ => by
    refine two (w := w) (wa := wa) (wb := wb) (R := liftO X.K w) ⟨sd, S, _, st, q, isB_ans an⟩ fun v u H2 x y S2 Q0' s2 r1 r2 q2 an => ?_
    exact ⟨x, y, S2, Q0', s2, r1, r2, q2, an⟩
/-- an expression whose value is a truth, as a test -/
theorem dt_b {e : Expr} {w : WE} (h : DE X e w) (he : ∀ whole, isTrue e X.env whole = (do let v ← whole; standAt e.pos; holding [v] (truthy v)) := by intro _; rfl) : DT X e (wB w) :=
  pt_imp (pt_val h he) fun σ H Q ⟨sd, S, Q0, st, q, an⟩ => ⟨sd, S, _, st, q, isB_ans an⟩
/-- a < b < c -/
def wCh (w w' : WO) (wa wb wc : WE) : WE := fun sd S Q => wa sd S fun x S1 => wb sd S1 fun y S2 => w x y S2 fun z S3 => isB (fun k S3 => if k = true then wc sd S3 fun u S4 => w' y u S4 Q else Q (.bl false) S3) z S3
theorem de_ch {op op' : CmpOp} {w w' : WO} (ho : DO2 X (compareOp op) w) (ho' : DO2 X (compareOp op') w') (ha : DE X a wa) (hb : DE X b wb) (hc : DE X c wc) (hm : lastMarks [op, op'] [b, c] = false := by with_unfolding_all rfl) :
    DE X (.Compare a [op, op'] [b, c] pos) (wCh w w' wa wb wc) := by
  refine pe_imp (pe_chain ho ho' ha hb hc hm) fun σ H Q ⟨sd, S, Q0, st, q, an⟩ => ?_
  refine ⟨sd, S, _, st, q, fun x S1 v H1 q1 n1 s1 r1 => ⟨sd, S1, _, st.nx n1 s1, q1, fun y S2 u H2 q2 n2 s2 r2 => ⟨x, y, S2, _, s2, Rel.nx n2 _ _ r1, r2, q2, fun z S3 zv H3 q3 n3 s3 r3 => ?_⟩⟩⟩
  have q3 := q3.ex
  cases z with
  | bl k =>
    have e : zv = .bl k := r3
    refine ⟨k, e, ?_⟩
    have n13 := (n1.trans n2).trans n3
    have q3' : if k = true then wc sd S3 fun u S4 => w' y u S4 Q0 else Q0 (.bl false) S3 := q3
    cases k with
    | true => exact ⟨sd, S3, _, st.nx n13 s3, q3', fun t S4 tv H4 q4 n4 s4 r4 => ⟨y, t, S4, Q0, s4, Rel.nx n4 _ _ (Rel.nx n3 _ _ r2), r4, q4, an.nx (n13.trans n4)⟩⟩
    | false => exact an _ _ _ _ q3' n13 s3 rfl
  | _ => exact False.elim q3
/-! ### and, or, not, if -/
variable {ta tb tc : WT} {rest : List Expr}
def wAnd (t u : WT) : WT := fun sd S Q => t sd S fun k S1 => if k = true then u sd S1 Q else Q false S1
def wOr (t u : WT) : WT := fun sd S Q => t sd S fun k S1 => if k = true then Q true S1 else u sd S1 Q
def wNot (t : WT) : WT := fun sd S Q => t sd S fun k S1 => Q (!k) S1
theorem dw_and1 (ha : DT X a ta) : DW X (.BoolOp .And [a] pos) ta := pw_and1 ha
theorem dw_or1 (ha : DT X a ta) : DW X (.BoolOp .Or [a] pos) ta := pw_or1 ha
theorem dw_and (ha : DT X a ta) (hb : DW X (.BoolOp .And (b :: rest) pos) tb) : DW X (.BoolOp .And (a :: b :: rest) pos) (wAnd ta tb) := by
  refine pw_imp (pw_and ha hb) fun σ H Q ⟨sd, S, Q0, st, q, an⟩ => ⟨sd, S, _, st, q, fun k S1 H1 q1 n1 s1 => ?_⟩
  cases k with
  | true => exact ⟨sd, S1, Q0, st.nx n1 s1, q1, an.nx n1⟩
  | false => exact an _ _ _ q1 n1 s1
theorem dw_or (ha : DT X a ta) (hb : DW X (.BoolOp .Or (b :: rest) pos) tb) : DW X (.BoolOp .Or (a :: b :: rest) pos) (wOr ta tb) := by
  refine pw_imp (pw_or ha hb) fun σ H Q ⟨sd, S, Q0, st, q, an⟩ => ⟨sd, S, _, st, q, fun k S1 H1 q1 n1 s1 => ?_⟩
  cases k with
  | true => exact an _ _ _ q1 n1 s1
  | false => exact ⟨sd, S1, Q0, st.nx n1 s1, q1, an.nx n1⟩
theorem dw_pt (h : DW X a ta) : DT X a ta := PW.pt h
theorem dt_not (ha : DT X a ta) : DT X (.UnaryOp .Not a pos) (wNot ta) :=
  pt_imp (pt_not ha) fun σ H Q ⟨sd, S, Q0, st, q, an⟩ => ⟨sd, S, _, st, q, fun k S1 H1 q1 n1 s1 => an _ _ _ q1 n1 s1⟩
/-- as values, all but the last truths -/
def wAndV (wa wb : WE) : WE := fun sd S Q => wa sd S (isB fun k S1 => if k = true then wb sd S1 Q else Q (.bl false) S1)
def wOrV (wa wb : WE) : WE := fun sd S Q => wa sd S (isB fun k S1 => if k = true then Q (.bl true) S1 else wb sd S1 Q)
def wNotV (wa : WE) : WE := fun sd S Q => wa sd S (isB fun k S1 => Q (.bl (!k)) S1)
theorem de_one {op} {w : WE} (h : DE X a w) : DE X (.BoolOp op [a] pos) w := pe_one h
theorem de_and (ha : DE X a wa) (hb : DE X (.BoolOp .And (b :: rest) pos) wb) : DE X (.BoolOp .And (a :: b :: rest) pos) (wAndV wa wb) := by
  refine pe_imp (pe_and ha hb) fun σ H Q ⟨sd, S, Q0, st, q, an⟩ => ⟨sd, S, _, st, q, fun d S1 v H1 q1 n1 s1 r1 => ?_⟩
  have q1 := q1.ex
  cases d with
  | bl k =>
    have e : v = .bl k := r1
    refine ⟨k, e, ?_⟩
    cases k with
    | true => exact ⟨sd, S1, Q0, st.nx n1 s1, q1, an.nx n1⟩
    | false => exact an _ _ _ _ q1 n1 s1 rfl
  | _ => exact False.elim q1
theorem de_or (ha : DE X a wa) (hb : DE X (.BoolOp .Or (b :: rest) pos) wb) : DE X (.BoolOp .Or (a :: b :: rest) pos) (wOrV wa wb) := by
  refine pe_imp (pe_or ha hb) fun σ H Q ⟨sd, S, Q0, st, q, an⟩ => ⟨sd, S, _, st, q, fun d S1 v H1 q1 n1 s1 r1 => ?_⟩
  have q1 := q1.ex
  cases d with
  | bl k =>
    have e : v = .bl k := r1
    refine ⟨k, e, ?_⟩
    cases k with
    | true => exact an _ _ _ _ q1 n1 s1 rfl
    | false => exact ⟨sd, S1, Q0, st.nx n1 s1, q1, an.nx n1⟩
  | _ => exact False.elim q1
theorem de_not (ha : DE X a wa) : DE X (.UnaryOp .Not a pos) (wNotV wa) := by
  refine pe_imp (pe_not ha) fun σ H Q ⟨sd, S, Q0, st, q, an⟩ => ⟨sd, S, _, st, q, fun d S1 v H1 q1 n1 s1 r1 => ?_⟩
  have q1 := q1.ex
  cases d with
  | bl k =>
    have e : v = .bl k := r1
    exact ⟨k, e, an _ _ _ _ q1 n1 s1 rfl⟩
  | _ => exact False.elim q1
def wIf (t : WT) (wa wb : WE) : WE := fun sd S Q => t sd S fun k S1 => if k = true then wa sd S1 Q else wb sd S1 Q
theorem de_if {c : Expr} (hc : DT X c tc) (ha : DE X a wa) (hb : DE X b wb) : DE X (.IfExp c a b pos) (wIf tc wa wb) := by
  refine pe_imp (pe_ifExp hc ha hb) fun σ H Q ⟨sd, S, Q0, st, q, an⟩ => ⟨sd, S, _, st, q, fun k S1 H1 q1 n1 s1 => ?_⟩
  cases k with
  | true => exact ⟨sd, S1, Q0, st.nx n1 s1, q1, an.nx n1⟩
  | false => exact ⟨sd, S1, Q0, st.nx n1 s1, q1, an.nx n1⟩

/-! ### arguments, displays, calls of built-ins by their names -/
def wNil : WA := fun _ S Q => Q [] S
def wCons (w : WE) (r : WA) : WA := fun sd S Q => w sd S fun x S1 => r sd S1 fun xs S2 => Q (x :: xs) S2
theorem da_nil : DA X [] wNil := pa_imp pa_nil fun σ H Q ⟨sd, S, Q0, st, q, an⟩ => an _ _ _ _ q (Nx.refl _ _) st.s rfl
theorem da_cons {e : Expr} {es : List Expr} {w : WE} {r : WA} (he : DE X e w) (hr : DA X es r) (hs : starEach (e :: es) X.env = (false, eval e X.env) :: starEach es X.env := by rfl) : DA X (e :: es) (wCons w r) :=
  pa_imp (pa_cons he hr hs) fun σ H Q ⟨sd, S, Q0, st, q, an⟩ => ⟨sd, S, _, st, q, fun x S1 v H1 q1 n1 s1 r1 => ⟨sd, S1, _, st.nx n1 s1, q1, fun xs S2 vs H2 q2 n2 s2 r2 => an _ _ _ _ q2 (n1.trans n2) s2 ⟨v, vs, rfl, Rel.nx n2 _ _ r1, r2⟩⟩⟩
def wTup (t : WA) : WE := fun sd S Q => t sd S fun xs S1 => xs.length ≤ 1000000 ∧ Q (.tup xs) S1
/-- a new list that nobody changes; one that may change -/
def wLst (t : WA) : WE := fun sd S Q => t sd S fun xs S1 => xs.length ≤ 1000000 ∧ Q (.lst xs) S1
def wNew (t : WA) : WE := fun sd S Q => t sd S fun xs S1 => xs.length ≤ 1000000 ∧ ∀ p, S1 p = none → Q (.obj p) (S1.set p (.lst xs))
theorem le_line {n : Nat} (h : n ≤ 1000000) : n ≤ sizeLine := Nat.le_trans h (by rw [sizeLine_eq]; decide)
variable {es : List Expr} {t : WA}
theorem de_tup {x1} (h : DA X es t) : DE X (.Tuple es x1 pos) (wTup t) :=
  pe_imp (pe_tup h) fun σ H Q ⟨sd, S, Q0, st, q, an⟩ => ⟨sd, S, _, st, q, fun xs S1 vs H1 q1 n1 s1 r1 => ⟨by rw [← r1.length]; exact le_line q1.1, fun p hp =>
    an _ _ _ _ q1.2 (n1.trans (nx_new hp)) (s1.new hp) ⟨p, vs, rfl, ⟨s1.free hp, upd_same⟩, r1.nx (nx_new hp)⟩⟩⟩
theorem de_lst (h : DA X es t) : DE X (.List es pos) (wLst t) :=
  pe_imp (pe_lst h) fun σ H Q ⟨sd, S, Q0, st, q, an⟩ => ⟨sd, S, _, st, q, fun xs S1 vs H1 q1 n1 s1 r1 => ⟨by rw [← r1.length]; exact le_line q1.1, fun p hp =>
    an _ _ _ _ q1.2 (n1.trans (nx_new hp)) (s1.new hp) ⟨p, vs, rfl, s1.free hp, upd_same, r1.nx (nx_new hp)⟩⟩⟩
theorem de_new (h : DA X es t) : DE X (.List es pos) (wNew t) :=
  pe_imp (pe_lst h) fun σ H Q ⟨sd, S, Q0, st, q, an⟩ => ⟨sd, S, _, st, q, fun xs S1 vs H1 q1 n1 s1 r1 => ⟨by rw [← r1.length]; exact le_line q1.1, fun p hp => by
    have n2 : Nx S1 H1 (S1.set p (.lst xs)) (upd H1 p (.lst vs)) := nx_obj hp (s1.free hp)
    exact an _ _ _ _ (q1.2 p (s1.free hp)) (n1.trans n2) (srel_put s1 n2 ⟨vs, upd_same, r1.nx n2⟩) rfl⟩⟩
def wCall (w : WL) (t : WA) : WE := fun sd S Q => t sd S fun xs S1 => w xs S1 Q
theorem call_lift {w : WL} {σ : St} {H : Hp} {Q : VK} (h : lift X.K (wCall w t) σ H Q) : tCB (liftL X.K w) (liftA X.K t) σ H Q := by
  obtain ⟨sd, S, Q0, st, q, an⟩ := h
  exact ⟨sd, S, _, st, q, fun xs S1 vs H1 q1 n1 s1 r1 => ⟨xs, S1, Q0, s1, r1, q1, an.nx n1⟩⟩
theorem de_callB {x : Str} {p pos : Pos} {e : Expr} {es : List Expr} {t : WA} {id : String} {w : WL} (hc : DC X (.builtin id) w) (hg : Gl X x) (hm : X.mg x = none) (hv : bootBuiltins x = some (.builtin id)) (ha : DA X (e :: es) t) (hn : x ≠ "__name__" := by decide)
    (hdb : (x == ("__debug__" : Str)) = false := by decide) (he : starEach (e :: es) X.env = (false, eval e X.env) :: starEach es X.env := by rfl) (hpl : (backTo pos (starEach es X.env)).any (fun x => x.1) = false := by rfl) : DE X (.Call (.Name x p) (e :: es) [] pos) (wCall w t) := pe_imp (pe_callB hc hg hm hv ha hn hdb he hpl) fun σ H Q h => call_lift h
theorem de_callTy {x : Str} {p pos : Pos} {e : Expr} {es : List Expr} {t : WA} {T : String} {w : WL} (hc : DC X (.type T) w) (hg : Gl X x) (hm : X.mg x = none) (hv : bootBuiltins x = some (.type T)) (ha : DA X (e :: es) t) (hn : x ≠ "__name__" := by decide)
    (hdb : (x == ("__debug__" : Str)) = false := by decide) (he : starEach (e :: es) X.env = (false, eval e X.env) :: starEach es X.env := by rfl) (hpl : (backTo pos (starEach es X.env)).any (fun x => x.1) = false := by rfl) : DE X (.Call (.Name x p) (e :: es) [] pos) (wCall w t) := pe_imp (pe_callTy hc hg hm hv ha hn hdb he hpl) fun σ H Q h => call_lift h

/-! ### statements -/
variable {st : Stmt} {sts : List Stmt} {ws wt : WS} {we : WE} {e : Expr}
def wNext : WS := fun E sd S => E.nx sd S
def wSeq (a b : WS) : WS := fun E sd S => a { E with nx := b E } sd S
theorem dss_nil : DSs X [] wNext := pss_imp pss_nil fun E σ H ⟨sd, S, E0, st, q, an⟩ => an.nx _ _ _ _ q (Nx.refl _ _) st
theorem dss_cons (h1 : DS X st ws) (h2 : DSs X sts wt) : DSs X (st :: sts) (wSeq ws wt) :=
  pss_imp (pss_cons h1 h2) fun E σ H ⟨sd, S, E0, st, q, an⟩ => ⟨sd, S, _, st, q, ⟨fun sd1 S1 σ1 H1 q1 n1 st1 => ⟨sd1, S1, E0, st1, q1, an.go n1⟩, an.rt, an.bk, an.ct⟩⟩
theorem dss_one (h1 : DS X st ws) : DSs X [st] ws := pss_one h1
def wBreak : WS := fun E sd S => E.bk sd S
def wCont : WS := fun E sd S => E.ct sd S
def wDrop (we : WE) : WS := fun E sd S => we sd S fun _ S1 => E.nx sd S1
theorem ds_expr (he : DE X e we) (hs : swapsWith e none pos.line X.env = pure false := by rfl) : DS X (.Expr e pos) (wDrop we) :=
  ps_imp (ps_expr he hs) fun E σ H ⟨sd, S, E0, st, q, an⟩ => ⟨sd, S, _, st, q, fun d S1 v H1 q1 n1 s1 r1 => an.nx _ _ _ _ q1 n1 (st.nx n1 s1)⟩
def wRet (we : WE) : WS := fun E sd S => we sd S E.rt
theorem ds_ret (he : DE X e we) : DS X (.Return (some e) pos) (wRet we) :=
  ps_imp (ps_ret he) fun E σ H ⟨sd, S, E0, st, q, an⟩ => ⟨sd, S, _, st, q, an.rt⟩
def wRetN : WS := fun E _ S => E.rt .non S
def wIfS (c : WT) (a b : WS) : WS := fun E sd S => c sd S fun k S1 => if k = true then a E sd S1 else b E sd S1
theorem ds_if {c : Expr} {a b : List Stmt} {tc : WT} (hc : DT X c tc) (ha : DSs X a ws) (hb : DSs X b wt) : DS X (.If c a b pos) (wIfS tc ws wt) := by
  refine ps_imp (ps_if hc ha hb) fun E σ H ⟨sd, S, E0, st, q, an⟩ => ⟨sd, S, _, st, q, fun k S1 H1 q1 n1 s1 => ?_⟩
  cases k with
  | true => exact ⟨sd, S1, E0, st.nx n1 s1, q1, an.go n1⟩
  | false => exact ⟨sd, S1, E0, st.nx n1 s1, q1, an.go n1⟩
def wNever : WS := fun _ _ _ => False
theorem ds_never : DS X st wNever := ps_imp ps_never fun E σ H ⟨sd, S, E0, st, q, an⟩ => q.elim

/-! ### targets -/
def gV (i : Nat) : WG := fun d sd S Q => Q (sd.set i (some d)) S
theorem dg_v {i : Nat} {x : Str} {pos : Pos} (hN : X.N.Nodup) (hi : X.N[i]? = some x := by rfl) (hx : Loc X.env.scope x := by first | exact Or.inl rfl | exact Or.inr rfl) (hf : X.fn x = true ∨ X.env.scope.names.lookup x = some .local := by first | exact .inl rfl | exact .inr rfl | assumption) : DG X (.Name x pos) (gV i) :=
  pg_imp (pg_name hN hi hx hf) fun v σ H Q ⟨d, sd, S, Q0, st, r, q, an⟩ => an _ _ _ _ q (Nx.refl _ _) (st.set i r)
def gN : WGs := fun ds sd S Q => ds = [] ∧ Q sd S
def gC (g : WG) (r : WGs) : WGs := fun ds sd S Q => match ds with
  | [] => False
  | d :: ds => g d sd S fun sd1 S1 => r ds sd1 S1 Q
theorem dgs_nil : DGs X [] gN := pgs_imp pgs_nil fun v σ H Q ⟨d, sd, S, Q0, st, r, q, an⟩ => by
  obtain ⟨rfl, q⟩ := q
  exact ⟨r, an _ _ _ _ q (Nx.refl _ _) st⟩
theorem dgs_cons {e : Expr} {es : List Expr} {g : WG} {r : WGs} (h1 : DG X e g) (h2 : DGs X es r) (hs : (assignEach (e :: es) X.env).map (·.2) = assign e X.env :: (assignEach es X.env).map (·.2) := by rfl) : DGs X (e :: es) (gC g r) :=
  pgs_imp (pgs_cons h1 h2 hs) fun v σ H Q ⟨d, sd, S, Q0, st, rr, q, an⟩ => by
    cases d with
    | nil => exact False.elim q
    | cons d ds =>
      obtain ⟨v1, vr, e1, r1, r2⟩ := rr
      exact ⟨v1, vr, e1, d, sd, S, _, st, r1, q, fun sd1 S1 σ1 H1 q1 n1 st1 => ⟨ds, sd1, S1, Q0, st1, r2.nx n1, q1, an.nx n1⟩⟩
/-- (a, b, ..) = a tuple -/
def gT (n : Nat) (r : WGs) : WG := fun d sd S Q => match d with
  | .tup xs => xs.length = n ∧ r xs sd S Q
  | _ => False
theorem dg_tup {es : List Expr} {k : Nat} {r : WGs} {n : Nat} (hc : X.calm = true) (h : DGs X es r) (hn : (assignEach es X.env).length = n := by rfl) (hst : (assignEach es X.env).findIdx? (·.1) = none := by rfl) : DG X (.Tuple es k pos) (gT n r) :=
  pg_imp (pg_tup hc h hn hst) fun v σ H Q ⟨d, sd, S, Q0, st, rr, q, an⟩ => by
    cases d with
    | tup xs =>
      obtain ⟨hl, q⟩ := q
      obtain ⟨a, vs, e, t, r⟩ := rr
      exact ⟨a, vs, e, t.sq, by rw [← r.length]; exact hl, xs, sd, S, Q0, st, r, q, an⟩
    | _ => exact False.elim q
def wAsg (we : WE) (g : WG) : WS := fun E sd S => we sd S fun d S1 => g d sd S1 E.nx
theorem asg_lift {g : WG} {E : Ends} {σ : St} {H : Hp} (h : liftS X.K (wAsg we g) E σ H) : tAsg (lift X.K we) (liftG X.K g) E σ H := by
  obtain ⟨sd, S, E0, st, q, an⟩ := h
  exact ⟨sd, S, _, st, q, fun d S1 v H1 q1 n1 s1 r1 => ⟨d, sd, S1, _, st.nx n1 s1, r1, q1, an.nx.nx n1⟩⟩
theorem ds_asg {tg e : Expr} {g : WG} (he : DE X e we) (hg : DG X tg g) (hs : swapsWithSole [tg] e pos.line X.env = pure false := by rfl) (hw : swappedStores [tg] e X.env = pure none := by rfl) (h1 : (assignEach [tg] X.env).map (·.2) = [assign tg X.env] := by rfl) :
    DS X (.Assign [tg] e pos) (wAsg we g) := ps_imp (ps_asg he hg hs hw h1) fun E σ H h => asg_lift h
theorem ds_set {i : Nat} {x : Str} {e : Expr} {pos' : Pos} (hN : X.N.Nodup) (he : DE X e we) (hi : X.N[i]? = some x := by rfl) (hx : Loc X.env.scope x := by first | exact Or.inl rfl | exact Or.inr rfl) (hs : swapsWith e (some (.Name x pos')) pos.line X.env = pure false := by rfl)
    (hf : X.fn x = true ∨ X.env.scope.names.lookup x = some .local := by first | exact .inl rfl | exact .inr rfl | assumption) : DS X (.Assign [.Name x pos'] e pos) (wAsg we (gV i)) :=
  ps_imp (ps_set hN hi hx he hs hf) fun E σ H ⟨sd, S, E0, st, q, an⟩ => ⟨sd, S, _, st, q, fun d S1 v H1 q1 n1 s1 r1 => an.nx _ _ _ _ q1 n1 ((st.nx n1 s1).set i r1)⟩
end
end L2.DL

/-! DL3: defs: what they promise over data (no repr is being made around them), calls, methods, makings, attributes -/
namespace L2.DL
open PySem PySem.Spec PyProof.Rows

/-- HandS's FnOk where, besides, no guard stands around -/
structure FnG (P : Program) (w : World) (K : PySem.W.Frag) (mg : Str → Option Value) (base : Heap) (CX : CXT) (k : Nat) (f : Addr) (fd : FuncData) (ps : List Str) (sp : Sp) : Prop where
  len : ∀ vs H Q E, sp vs H Q E → vs.length = ps.length
  go : ∀ (A : Around) (outer : List Env) (s : Shared) (H : Hp) (args : Args) (us : List Value) (vs : List V) (Q : VK) (E : XK), Room k A → A.guards = some [] → Env0 P w K mg base A outer s H →
    BindsTo s fd args (ps.zip us) → Vals vs us → sp vs H Q E → codeAny (model P w) A (.call (.ref f) args) (CR CX outer P w H s Q E) s
section
variable {P : Program} {w : World} {K : PySem.W.Frag} {mg : Str → Option Value} {base : Heap} {CX : CXT} {k j : Nat} {f : Addr} {fd : FuncData} {ps : List Str} {sp sp' : Sp}
theorem FnG.of (F : FnOk P w K mg base CX k f fd ps sp) : FnG P w K mg base CX k f fd ps sp := ⟨F.len, fun A outer s H args us vs Q E hr _ e b r h => F.run A outer s H args us vs Q E hr e b r h⟩
theorem FnG.up (F : FnG P w K mg base CX j f fd ps sp) (h : j ≤ k) : FnG P w K mg base CX k f fd ps sp := ⟨F.len, fun A outer s H args us vs Q E hr hg e b r q => F.go A outer s H args us vs Q E (hr.mono h) hg e b r q⟩
theorem FnG.imp (F : FnG P w K mg base CX k f fd ps sp) (h : ∀ vs H Q E, sp' vs H Q E → sp vs H Q E) : FnG P w K mg base CX k f fd ps sp' :=
  ⟨fun vs H Q E q => F.len vs H Q E (h _ _ _ _ q), fun A outer s H args us vs Q E hr hg e b r q => F.go A outer s H args us vs Q E hr hg e b r (h _ _ _ _ q)⟩
/-- a def's object as the written part holds it -/
def FnAt (K : PySem.W.Frag) (qual : Str) (st : Stmt) (f : Addr) (fd : FuncData) : Prop := ∃ (x : Str) (oc : Value) (od : Option Addr) (dV kV doc pm : Value) (an : Option Addr) (cdv ct : Value) (osl : Array (Option Value)),
  fd = PySem.W.fnOf x qual (defArgs st) (defBody st) (defScope st) dV kV doc pm an cdv ct ∧ K.lookup f = some ⟨oc, od, .func fd, osl⟩ ∧ PySem.W.codeIn K cdv qual = true
theorem fun_at {x qual : Str} {st : Stmt} (F : Fun K x qual st f fd) : FnAt K qual st f fd := let ⟨oc, od, kV, doc, pm, an, cdv, ct, osl, h⟩ := F.ex; ⟨x, oc, od, _, kV, doc, pm, an, cdv, ct, osl, h⟩
theorem funD_at {x qual : Str} {st : Stmt} {dvs : List V} {kws : List (Str × V)} (F : FunD K x qual (defArgs st) (defBody st) (defScope st) dvs kws f fd) : FnAt K qual st f fd := let ⟨oc, od, dV, kV, doc, pm, an, cdv, ct, osl, h1, h2, h3, _⟩ := F.ex; ⟨x, oc, od, dV, kV, doc, pm, an, cdv, ct, osl, h1, h2, h3⟩
/-- a def keeps its promise if its body does -/
theorem fnG_body {qual : Str} {st : Stmt} {N : List Str} (F : FnAt K qual st f fd) (S : FnScope N ps (defScope st)) (len : ∀ vs H Q E, sp vs H Q E → vs.length = ps.length)
    (body : ∀ (cdv : Value) (A : Around) (outer : List Env) (s : Shared) (H : Hp) (vs : List V) (Q : VK) (E : XK), Room k (A.deeper (envOfC qual (defScope st) s.heap.objs.size f cdv)) → (A.deeper (envOfC qual (defScope st) s.heap.objs.size f cdv)).guards = some [] → sp vs H Q E →
      ∃ t, PSs (cxOf CX P w K mg base N qual (defScope st) f cdv A outer s H E) (defBody st) t ∧ t { nx := fun _ H' => Q .non H', rt := Q } (start N vs) H) : FnG P w K mg base CX (k + 1) f fd ps sp := by
  obtain ⟨x, oc, od, dV, kV, doc, pm, an, cdv, ct, osl, rfl, lk, hcd⟩ := F
  refine ⟨len, fun A outer s H args us vs Q E hr hg e0 hb r hsp => ?_⟩
  have keepB : ∀ b o, base.get? b = some o → s.heap.get? b = some o := fun b o e => (e0.bs b o e).1
  have kinds : ∀ y ∈ ps.zip us, (defScope st).names.lookup y.1 = some .local ∨ ((defScope st).names.lookup y.1 = some .cell ∧ ((cellsFrom (s.heap.objs.size + 1) (defScope st).names []).lookup y.1).isSome = true) := by
    rintro ⟨n, v⟩ hy
    exact (S.par n (List.of_mem_zip hy).1).imp id fun q => ⟨q, PySem.W.cellsFrom_some _ _ _ (.inl q)⟩
  refine codeAny_call_function hr.depth (e0.mod.kin.keeps keepB _ _ lk) rfl S.co S.gen rfl (PySem.W.codeRec_of (e0.mod.kin.keeps keepB) hcd) (hb _ _ _ _ (wpAny_newFunctionEnv_cells S.kind kinds fun env he s1 x => ?_))
  subst he
  refine ⟨(e0.mod.nolimit.keeps keepB).keeps x.toInCall.keep, codeAny_func ?_⟩
  obtain ⟨t, ht, hq⟩ := body cdv A outer s H vs Q E (hr.deeper _) hg hsp
  have I := inv_start (CX := CX) (E := E) S hr.hd e0 (len _ _ _ _ hsp) r x
  refine wpAny_mono (ht.run [] s1 _ H _ I hq) (fun fl s' hs => ?_) fun _ _ hs => hs
  cases fl with
  | ret u => exact let ⟨v, _, H', J, rv, q⟩ := hs; ⟨v, H', J.os, J.bare, J.base, J.hok, rv, q⟩
  | next => exact let ⟨_, H', J, q⟩ := hs; ⟨.non, H', J.os, J.bare, J.base, J.hok, rfl, q⟩
  | brk => exact let ⟨_, _, _, q⟩ := hs; q.elim
  | cont => exact let ⟨_, _, _, q⟩ := hs; q.elim
end
section
variable {X : Cx} {CX : CXT} {k : Nat} {f C : Addr} {fd : FuncData} {ps ks : List Str} {sp : Sp} {dvs : List V} {ds : List Value} {E : XK} {x m : Str} {p pos apos : Pos} {e o : Expr} {es : List Expr} {kws : List Keyword} {ta : TE} {t tk : TA}
theorem CE.call {pins : List (Addr × Obj)} {σ : St} {H : Hp} {s s' : Shared} {Q : VK} {r : Result} (I : Inv X pins σ H s) (hx : Passes CX X E) (h : CR CX X.stack X.prog X.w H s Q E r s') :
    match r with
    | .ok (.ret u) => EP X pins σ Q u s'
    | .ok _ => False
    | .error er => X.xe er s' := by
  cases r with
  | error er => exact hx pins σ H s er s' I h
  | ok fl =>
    cases fl with
    | ret u => exact I.after h
    | next => exact h
    | brk => exact h
    | cont => exact h
theorem runG {pins : List (Addr × Obj)} {σ : St} {H : Hp} {s : Shared} {Q : VK} {args : Args} {us : List Value} {vs : List V} (F : FnG X.prog X.w X.K X.mg X.base CX k f fd ps sp) (hr : Room k X.A) (gd : X.A.guards = some []) (hx : Passes CX X E)
    (I : Inv X pins σ H s) (hb : BindsTo s fd args (ps.zip us)) (r : Vals vs us) (h : sp vs H Q E) : wpAny (model X.prog X.w) X.A (call (.ref f) args.pos args.kw) (EP X pins σ Q) X.xe s := by
  refine wpAny_call (codeAny_mono (F.go X.A X.stack s H args us vs Q E hr gd I.env0 hb r h) fun rs s' hq => ?_)
  have z := CE.call I hx hq
  cases rs with
  | error er => exact z
  | ok fl =>
    cases fl with
    | ret u => exact z
    | next => exact z.elim
    | brk => exact z.elim
    | cont => exact z.elim
theorem runB {pins : List (Addr × Obj)} {σ : St} {H : Hp} {s : Shared} {Q : VK} {us : List Value} {vs : List V} (F : FnG X.prog X.w X.K X.mg X.base CX k f fd ps sp) (hr : Room k X.A) (gd : X.A.guards = some []) (hb : Binds X.K fd ps ds) (hd : Vals dvs ds) (hx : Passes CX X E)
    (I : Inv X pins σ H s) (r : Vals vs us) (h : sp (vs ++ dvs) H Q E) : wpAny (model X.prog X.w) X.A (call (.ref f) us) (EP X pins σ Q) X.xe s := by
  have r2 := r.append hd
  exact runG (args := ⟨us, []⟩) F hr gd hx I (hb s us I.kIn (by rw [← r2.length]; exact F.len _ _ _ _ h)) r2 h
theorem peG_call (F : FnG X.prog X.w X.K X.mg X.base CX k f fd ps sp) (hr : Room k X.A) (gd : X.A.guards = some []) (hg : Gl X x) (hm : X.mg x = some (.ref f)) (hk : PySem.W.keepIn X.K (.ref f) = true) (hb : Binds X.K fd ps ds) (hd : Vals dvs ds) (hx : Passes CX X E)
    (ha : PA X (e :: es) t) (hdb : (x == ("__debug__" : Str)) = false := by decide) (he : starEach (e :: es) X.env = (false, eval e X.env) :: starEach es X.env := by rfl) (hpl : (backTo pos (starEach es X.env)).any (·.1) = false := by rfl) :
    PE X (.Call (.Name x p) (e :: es) [] pos) (tCall sp dvs E t) :=
  ⟨fun pins s σ H Q I h => wpAny_Call_Name_kw (ld_glob I hg hm (PySem.W.callWith_K (h₀ := X.base) I.ok.mod.kin hk (thn (ha.run pos pins s σ H _ I h) fun us s1 ⟨vs, H1, I1, r, q⟩ => ⟨I1.kIn, runB F hr gd hb hd hx I1 r q⟩) he hpl) hdb)⟩
theorem peG_callK0 {g : List Value → List Value → List Value} {gV : List V → List V → List V} (F : FnG X.prog X.w X.K X.mg X.base CX k f fd ps sp) (hr : Room k X.A) (gd : X.A.guards = some []) (hg : Gl X x) (hm : X.mg x = some (.ref f)) (hk : PySem.W.keepIn X.K (.ref f) = true) (hb : KBinds X.K fd ps ks g gV)
    (hx : Passes CX X E) (hkw : PK X kws tk) (hall : (backToKw pos (keywordEach kws X.env)).all (·.1.isSome) = true := by rfl) (hks : (backToKw pos (keywordEach kws X.env)).filterMap (·.1) = ks := by rfl) (hdb : (x == ("__debug__" : Str)) = false := by decide)
    (hpl : ((backTo pos (starEach [] X.env)).any (·.1) || (backToKw pos (keywordEach kws X.env)).any (·.1.isNone)) = false := by rfl) : PE X (.Call (.Name x p) [] kws pos) (fun σ H Q => tk σ H fun zs H2 => sp (gV [] zs) H2 Q E) := by
  refine ⟨fun pins s σ H Q I h => wpAny_Call_Name_kw (ld_glob I hg hm (PySem.W.callWith_KW0 (h₀ := X.base) I.ok.mod.kin hk hall ?_ hpl) hdb)⟩
  refine thn (hkw.run pos pins s σ H _ I h) fun ws s2 ⟨zs, H2, I2, rz, q2⟩ => ⟨I2.kIn, ?_⟩
  have r2 := hb.rel .nil rz
  rw [hks]
  exact runG (args := ⟨[], ks.zip ws⟩) F hr gd hx I2 (hb.to s2 [] ws I2.kIn (by rw [← r2.length]; exact F.len _ _ _ _ q2)) r2 q2
/-- a method of an instance -/
abbrev MethTree (X : Cx) (o : Expr) (m : Str) (apos pos : Pos) (pl : Sem Bool) (es : List Expr) : Prop := eval (.Call (.Attribute o m apos) es [] pos) X.env = (do
      let ov ← eval o X.env
      standAt apos.atName
      let (f, first) ← holding [ov] (getMethod ov m pl)
      callWith pos f first (backTo pos (starEach es X.env)) (backToKw pos (keywordEach [] X.env)))
/-- C(..) -/
theorem make_guards {A : Around} {us : List Value} {kw : List (Str × Value)} : (A.under (.builtin "type.__call__" ⟨.ref C :: us, kw⟩)).guards = A.guards := by
  first
    | rfl
    | simp [Around.under, Code.guards, Code.isGuard, guardIds, pushGuards]
theorem runMk {pins : List (Addr × Obj)} {σ : St} {H : Hp} {s : Shared} {Q : VK} {args : Args} {us : List Value} {vs : List V} (M : Mk X.K C f) (F : FnG X.prog X.w X.K X.mg X.base CX k f fd ps sp) (hr : Room (k + 1) X.A) (gd : X.A.guards = some []) (hx : Passes CX X E)
    (I : Inv X pins σ H s) (hb : ∀ (s' : Shared) (x : Value), X.K.In s'.heap → (x :: us).length = ps.length → BindsTo s' fd ⟨x :: args.pos, args.kw⟩ (ps.zip (x :: us))) (r : Vals vs us)
    (h : ∀ x dx, H x = none → H dx = none → dx ≠ x → sp (.ref x :: vs) (upd (upd H dx (.own x)) x (.ins C dx [])) (fun v H2 => v = .non ∧ Q (.ref x) H2) E) : wpAny (model X.prog X.w) X.A (call (.ref C) args.pos args.kw) (EP X pins σ Q) X.xe s := by
  have hq := h (s.heap.objs.size + 1) s.heap.objs.size (I.hok.fresh (Nat.le_succ _)) (I.hok.fresh (Nat.le_refl _)) (Nat.ne_of_lt (Nat.lt_succ_self _))
  have I2 := Inv.made (C := C) I
  have r2 : Vals (V.ref (s.heap.objs.size + 1) :: vs) (Value.ref (s.heap.objs.size + 1) :: us) := .cons rfl r
  refine wpAny_call (make_map (f := f) I.kIn M.makes M.init (beq_iff_eq.mp M.fn) (codeAny_mono (F.go _ X.stack _ _ ⟨Value.ref (s.heap.objs.size + 1) :: args.pos, args.kw⟩ (Value.ref (s.heap.objs.size + 1) :: us) _ _ E (hr.make C args.pos args.kw)
    (make_guards.trans gd) (I2.env0.make C args.pos args.kw) (hb _ _ I2.kIn (by rw [← r2.length]; exact F.len _ _ _ _ hq)) r2 hq) fun rs s' hq' => ?_))
  have z := CE.call I2 hx hq'
  cases rs with
  | error er => exact z
  | ok fl =>
    cases fl with
    | ret u =>
      obtain ⟨v, H', I3, rv, ev, q3⟩ := z
      subst ev
      exact ⟨rv, ⟨V.ref (s.heap.objs.size + 1), H', I3, rfl, q3⟩⟩
    | next => exact z.elim
    | brk => exact z.elim
    | cont => exact z.elim
theorem peG_make (M : Mk X.K C f) (F : FnG X.prog X.w X.K X.mg X.base CX k f fd ps sp) (hr : Room (k + 1) X.A) (gd : X.A.guards = some []) (hg : Gl X x) (hm : X.mg x = some (.ref C)) (hb : Binds X.K fd ps ds) (hd : Vals dvs ds) (hx : Passes CX X E)
    (ha : PA X (e :: es) t) (hdb : (x == ("__debug__" : Str)) = false := by decide) (he : starEach (e :: es) X.env = (false, eval e X.env) :: starEach es X.env := by rfl) (hpl : (backTo pos (starEach es X.env)).any (·.1) = false := by rfl) :
    PE X (.Call (.Name x p) (e :: es) [] pos) (tMake C sp dvs E t) := by
  refine ⟨fun pins s σ H Q I h => wpAny_Call_Name_kw (ld_glob I hg hm (PySem.W.callWith_K (h₀ := X.base) I.ok.mod.kin M.kp (thn (ha.run pos pins s σ H _ I h) fun us s1 ⟨vs, H1, I1, r, q⟩ => ⟨I1.kIn, ?_⟩) he hpl) hdb)⟩
  exact runMk (args := ⟨us, []⟩) (us := us ++ ds) M F hr gd hx I1 (fun s' x kx hl => hb s' (x :: us) kx hl) (r.append hd) q
/-! ### .. over data -/
/-- a promise over data: the arguments, the objects, what is wanted of the answer, what is wanted of an error (its class, its attributes) -/
abbrev EK := Str → List (Str × D) → SO → Prop
abbrev DSp := List D → SO → KD → EK → Prop
def AnsX (K : PySem.W.Frag) (S : SO) (H : Hp) (E0 : EK) (E : XK) : Prop := ∀ n fs S' H' C d, E0 n fs S' → Nx S H S' H' → SRel K S' H' → PySem.W.nsIn K mainGlobals n = some (some (.ref C)) → ErrF K S' H' d fs → E (.ref C) d H'
def liftSp (K : PySem.W.Frag) (sp : DSp) : Sp := fun vs H Q E => ∃ ds S Q0 E0, SRel K S H ∧ Rels K S H ds vs ∧ sp ds S Q0 E0 ∧ Ans K S H Q0 Q ∧ AnsX K S H E0 E
abbrev NoE : EK := fun _ _ _ => False
theorem noE_ans {K : PySem.W.Frag} {S : SO} {H : Hp} {E : XK} : AnsX K S H NoE E := fun _ _ _ _ _ _ h => h.elim
abbrev FnD (P : Program) (w : World) (K : PySem.W.Frag) (mg : Str → Option Value) (base : Heap) (k : Nat) (f : Addr) (fd : FuncData) (ps : List Str) (sp : DSp) : Prop := FnG P w K mg base CX0 k f fd ps (liftSp K sp)

variable {dsp : DSp} {dds : List D} {wt wk : WA} {wo : WE}
/-- f(..); the defaults dds -/
def wFn (sp : DSp) (dds : List D) (t : WA) : WE := fun sd S Q => t sd S fun xs S1 => sp (xs ++ dds) S1 Q NoE
/-- the defaults: values that hang on no heap -/
def Lits (dds : List D) (dvs : List V) : Prop := ∀ K S H, Rels K S H dds dvs
theorem lits_nil : Lits [] [] := fun _ _ _ => rfl
theorem de_fn (F : FnD X.prog X.w X.K X.mg X.base k f fd ps dsp) (hr : Room k X.A) (gd : X.A.guards = some []) (hm : X.mg x = some (.ref f)) (hk : PySem.W.keepIn X.K (.ref f) = true) (hb : Binds X.K fd ps ds) (hd : Vals dvs ds) (hl : Lits dds dvs) (ha : DA X (e :: es) wt)
    (hg : Gl X x := by rfl) (hdb : (x == ("__debug__" : Str)) = false := by decide) (he : starEach (e :: es) X.env = (false, eval e X.env) :: starEach es X.env := by rfl) (hpl : (backTo pos (starEach es X.env)).any (·.1) = false := by rfl) :
    DE X (.Call (.Name x p) (e :: es) [] pos) (wFn dsp dds wt) :=
  pe_imp (peG_call F hr gd hg hm hk hb hd (E := E0) pass0 ha hdb he hpl) fun σ H Q ⟨sd, S, Q0, st, q, an⟩ => ⟨sd, S, _, st, q, fun xs S1 vs H1 q1 n1 s1 r1 => ⟨xs ++ dds, S1, Q0, NoE, s1, r1.app (hl _ _ _), q1, an.nx n1, noE_ans⟩⟩
/-- f(k = v, ..): gD puts the values in the parameters' order -/
abbrev DK (X : Cx) (kws : List Keyword) (w : WA) : Prop := PK X kws (liftA X.K w)
theorem dk_nil : DK X [] wNil := ⟨fun pos pins s σ H Q I ⟨sd, S, Q0, st, q, an⟩ => pk_nil.run pos pins s σ H Q I (an _ _ _ _ q (Nx.refl _ _) st.s rfl)⟩
theorem dk_cons {nm : Option Str} {kpos : Pos} {w : WE} (he : DE X e w) (hr : DK X kws wk) : DK X (⟨nm, e, kpos⟩ :: kws) (wCons w wk) :=
  ⟨fun pos pins s σ H Q I ⟨sd, S, Q0, st, q, an⟩ => (pk_cons he hr).run pos pins s σ H Q I ⟨sd, S, _, st, q, fun x S1 v H1 q1 n1 s1 r1 => ⟨sd, S1, _, st.nx n1 s1, q1, fun xs S2 vs H2 q2 n2 s2 r2 => an _ _ _ _ q2 (n1.trans n2) s2 ⟨v, vs, rfl, Rel.nx n2 _ _ r1, r2⟩⟩⟩⟩
def GD (gD : List D → List D → List D) (gV : List V → List V → List V) : Prop := ∀ K S H ds vs es us, Rels K S H ds vs → Rels K S H es us → Rels K S H (gD ds es) (gV vs us)
def wFnK (sp : DSp) (gD : List D → List D → List D) (t tk : WA) : WE := fun sd S Q => t sd S fun xs S1 => tk sd S1 fun ys S2 => sp (gD xs ys) S2 Q NoE
theorem de_fnK0 {g : List Value → List Value → List Value} {gV : List V → List V → List V} {gD : List D → List D → List D} (F : FnD X.prog X.w X.K X.mg X.base k f fd ps dsp) (hr : Room k X.A) (gd : X.A.guards = some []) (hm : X.mg x = some (.ref f)) (hk : PySem.W.keepIn X.K (.ref f) = true)
    (hb : KBinds X.K fd ps ks g gV) (hgd : GD gD gV) (hkw : DK X kws wk) (hg : Gl X x := by rfl) (hall : (backToKw pos (keywordEach kws X.env)).all (·.1.isSome) = true := by rfl) (hks : (backToKw pos (keywordEach kws X.env)).filterMap (·.1) = ks := by rfl) (hdb : (x == ("__debug__" : Str)) = false := by decide)
    (hpl : ((backTo pos (starEach [] X.env)).any (·.1) || (backToKw pos (keywordEach kws X.env)).any (·.1.isNone)) = false := by rfl) : DE X (.Call (.Name x p) [] kws pos) (wFnK dsp gD wNil wk) :=
  pe_imp (peG_callK0 F hr gd hg hm hk hb (E := E0) pass0 hkw hall hks hdb hpl) fun σ H Q ⟨sd, S, Q0, st, q, an⟩ => ⟨sd, S, _, st, q, fun xs S1 vs H1 q1 n1 s1 r1 => ⟨gD [] xs, S1, Q0, NoE, s1, hgd _ _ _ _ _ _ _ rfl r1, q1, an.nx n1, noE_ans⟩⟩
/-- the instance d of the class at C, of these attributes -/
def InsD (C : Addr) (d : D) (S : SO) (fs : List (Str × D)) : Prop := match d with
  | .ins C' gs => C' = C ∧ gs = fs
  | .obj a => S a = some (.ins C fs)
  | _ => False
theorem InsD.at {K : PySem.W.Frag} {S : SO} {H : Hp} {d : D} {v : V} {fs : List (Str × D)} (h : InsD C d S fs) (s : SRel K S H) (r : Rel K S H d v) : ∃ a dx l, v = .ref a ∧ H a = some (.ins C dx l) ∧ RelF K S H fs l := by
  cases d with
  | ins C' gs =>
    obtain ⟨rfl, rfl⟩ := h
    obtain ⟨a, dx, l, e, _, hl, rf⟩ := r
    exact ⟨a, dx, l, e, hl, rf⟩
  | obj a =>
    obtain ⟨dx, l, hl, rf⟩ := s a _ h
    exact ⟨a, dx, l, r, hl, rf⟩
  | _ => exact False.elim h
/-- o.m(..) -/
def wMeth (C : Addr) (m : Str) (sp : DSp) (dds : List D) (wo : WE) (t : WA) : WE := fun sd S Q => wo sd S fun d S1 => (∃ fs, InsD C d S1 fs ∧ fs.lookup m = none) ∧ t sd S1 fun xs S2 => sp (d :: (xs ++ dds)) S2 Q NoE
/-- .. frozen at the end -/
def wMakeF (C : Addr) (sp : DSp) (dds : List D) (t : WA) : WE := fun sd S Q => t sd S fun xs S1 => ∀ p, S1 p = none → sp (.obj p :: (xs ++ dds)) (S1.set p (.ins C [])) (fun d S2 => d = .non ∧ ∃ fs, S2 p = some (.ins C fs) ∧ Q (.ins C fs) (S2.del p)) NoE
theorem make_srel {K : PySem.W.Frag} {S : SO} {H : Hp} {x dx : Addr} (s : SRel K S H) (nx : H x = none) (nd : H dx = none) (ne : dx ≠ x) : Nx S H (S.set x (.ins C [])) (upd (upd H dx (.own x)) x (.ins C dx [])) ∧ SRel K (S.set x (.ins C [])) (upd (upd H dx (.own x)) x (.ins C dx [])) := by
  have n1 : Nx S H S (upd H dx (.own x)) := nx_new nd
  have s1 := s.new (o := .own x) nd
  have hx : upd H dx (.own x) x = none := by rw [upd_ne ne.symm]; exact nx
  have n2 : Nx S (upd H dx (.own x)) (S.set x (.ins C [])) (upd (upd H dx (.own x)) x (.ins C dx [])) := nx_obj hx (s1.free hx)
  exact ⟨n1.trans n2, srel_put s1 n2 ⟨dx, [], upd_same, rfl⟩⟩
theorem nx_del {S : SO} {H : Hp} (p : Addr) : Nx S H (S.del p) H := fun a u h1 h2 => ⟨by unfold SO.del; split; rfl; exact h1, h2⟩
theorem srel_del {K : PySem.W.Frag} {S : SO} {H : Hp} (s : SRel K S H) (p : Addr) : SRel K (S.del p) H := fun a u q => by
  have q' : S a = some u := by
    unfold SO.del at q
    split at q
    · cases q
    · exact q
  exact (s a u q').nx (nx_del p) rfl
theorem del_at {S : SO} {p : Addr} : (S.del p) p = none := if_pos rfl
/-- nobody changes it any more -/
theorem frz_ins {K : PySem.W.Frag} {S : SO} {H : Hp} {p : Addr} {fs : List (Str × D)} (s : SRel K S H) (h : S p = some (.ins C fs)) : Nx S H (S.del p) H ∧ SRel K (S.del p) H ∧ Rel K (S.del p) H (.ins C fs) (.ref p) := by
  obtain ⟨dx, l, hl, rf⟩ := s p _ h
  exact ⟨nx_del p, srel_del s p, p, dx, l, rfl, del_at, hl, RelF.nx (nx_del p) _ _ rf⟩
theorem frz_lst {K : PySem.W.Frag} {S : SO} {H : Hp} {p : Addr} {ds : List D} (s : SRel K S H) (h : S p = some (.lst ds)) : Nx S H (S.del p) H ∧ SRel K (S.del p) H ∧ Rel K (S.del p) H (.lst ds) (.ref p) := by
  obtain ⟨l, hl, rf⟩ := s p _ h
  exact ⟨nx_del p, srel_del s p, p, l, rfl, del_at, hl, rf.nx (nx_del p)⟩
theorem frz_dic {K : PySem.W.Frag} {S : SO} {H : Hp} {p : Addr} {t : Bool} {kvs : List (D × D)} (s : SRel K S H) (h : S p = some (.dic t kvs)) : Nx S H (S.del p) H ∧ SRel K (S.del p) H ∧ Rel K (S.del p) H (.dic t kvs) (.ref p) := by
  rcases s p _ h with ⟨l, ht, hl, rf⟩ | ⟨l, ht, hl, rf⟩
  · exact ⟨nx_del p, srel_del s p, p, rfl, del_at, .inl ⟨l, ht, hl, RelK.nx (nx_del p) _ _ rf⟩⟩
  · exact ⟨nx_del p, srel_del s p, p, rfl, del_at, .inr ⟨l, ht, hl, RelT.nx (nx_del p) _ _ rf⟩⟩
theorem de_makeF (M : Mk X.K C f) (F : FnD X.prog X.w X.K X.mg X.base k f fd ps dsp) (hr : Room (k + 1) X.A) (gd : X.A.guards = some []) (hm : X.mg x = some (.ref C)) (hb : Binds X.K fd ps ds) (hd : Vals dvs ds) (hl : Lits dds dvs) (ha : DA X (e :: es) wt) (hg : Gl X x := by rfl)
    (hdb : (x == ("__debug__" : Str)) = false := by decide) (he : starEach (e :: es) X.env = (false, eval e X.env) :: starEach es X.env := by rfl) (hpl : (backTo pos (starEach es X.env)).any (·.1) = false := by rfl) : DE X (.Call (.Name x p) (e :: es) [] pos) (wMakeF C dsp dds wt) :=
  pe_imp (peG_make M F hr gd hg hm hb hd (E := E0) pass0 ha hdb he hpl) fun σ H Q ⟨sd, S, Q0, st, q, an⟩ => ⟨sd, S, _, st, q, fun xs S1 vs H1 q1 n1 s1 r1 => fun y dx ny nd ne => by
    obtain ⟨n2, s2⟩ := make_srel (C := C) s1 ny nd ne
    refine ⟨.obj y :: (xs ++ dds), _, _, NoE, s2, ⟨.ref y, _, rfl, rfl, (r1.nx n2).app (hl _ _ _)⟩, q1 y (s1.free ny), fun d S3 v H3 ⟨e1, fs, hS, q3⟩ n3 s3 r3 => ?_, noE_ans⟩
    subst e1
    obtain ⟨n4, s4, r4⟩ := frz_ins s3 hS
    exact ⟨r3, an _ _ _ _ q3 (n1.trans (n2.trans (n3.trans n4))) s4 r4⟩⟩
/-- o.f, an attribute -/
def wFld (C : Addr) (g : Str) (wo : WE) : WE := fun sd S Q => wo sd S fun d S1 => ∃ fs v, InsD C d S1 fs ∧ fs.lookup g = some v ∧ Q v S1
theorem de_fld {g : Str} (c : Cls X.K C) (n : NoAttr X.K C g) (he : DE X o wo) (hb : attributeBase o g X.env (eval o X.env) = eval o X.env := by rfl) : DE X (.Attribute o g pos) (wFld C g wo) :=
  pe_imp (pe_fld he hb) fun σ H Q ⟨sd, S, Q0, st, q, an⟩ => ⟨sd, S, _, st, q, fun d S1 v H1 ⟨fs, u, hi, hl, q1⟩ n1 s1 r1 => by
    obtain ⟨a, dx, l, e, hH, rf⟩ := hi.at s1 r1
    obtain ⟨y, hy, ry⟩ := rf.look hl
    exact ⟨a, C, dx, l, y, e, hH, c, n, hy, an _ _ _ _ q1 n1 s1 ry⟩⟩
/-- o.p, a property that gives the attribute g -/
theorem de_prop {pn g : Str} {pa ga : Addr} {fdg : FuncData} {psg : List Str} {j : Nat} (c : Cls X.K C) (hp : PropOf X.K C pn pa ga) (F : FnOk X.prog X.w X.K X.mg X.base CX0 j ga fdg psg (getSp C g)) (hr : Room (j + 1) X.A) (hbi : Binds X.K fdg psg []) (he : DE X o wo)
    (hb : attributeBase o pn X.env (eval o X.env) = eval o X.env := by rfl) : DE X (.Attribute o pn pos) (wFld C g wo) :=
  pe_imp (pe_prop he c hp F hr hbi .nil (E := E0) pass0 hb) fun σ H Q ⟨sd, S, Q0, st, q, an⟩ => ⟨sd, S, _, st, q, fun d S1 v H1 ⟨fs, u, hi, hl, q1⟩ n1 s1 r1 => by
    obtain ⟨a, dx, l, e, hH, rf⟩ := hi.at s1 r1
    obtain ⟨y, hy, ry⟩ := rf.look hl
    exact ⟨a, dx, l, e, hH, a, dx, l, y, rfl, hH, hy, an _ _ _ _ q1 n1 s1 ry⟩⟩
/-- self.f = e -/
theorem RelF.put {K : PySem.W.Frag} {S : SO} {H : Hp} {d : D} {v : V} (r : Rel K S H d v) (g : Str) : ∀ {fs : List (Str × D)} {l : List (Str × V)}, RelF K S H fs l → RelF K S H (putD g d fs) (putF g v l)
  | [], _, h => by
    have e : _ = [] := h
    subst e
    exact ⟨v, [], rfl, r, rfl⟩
  | (y, d') :: fs, _, h => by
    obtain ⟨u, t, rfl, h1, h2⟩ := h
    unfold putD putF
    split
    · exact ⟨v, t, rfl, r, h2⟩
    · exact ⟨u, _, rfl, h1, h2.put r g⟩
theorem RelF.length {K : PySem.W.Frag} {S : SO} {H : Hp} : ∀ {fs : List (Str × D)} {l : List (Str × V)}, RelF K S H fs l → fs.length = l.length
  | [], _, h => by
    have e : _ = [] := h
    rw [e]
    rfl
  | (y, d') :: fs, _, h => by
    obtain ⟨u, t, rfl, h1, h2⟩ := h
    rw [List.length_cons, List.length_cons, h2.length]
def wSetF (C : Addr) (g : Str) (wo we : WE) : WS := fun E sd S => we sd S fun y S1 => wo sd S1 fun d S2 => ∃ a fs, d = .obj a ∧ S2 a = some (.ins C fs) ∧ fs.length < 1000 ∧ E.nx sd (S2.set a (.ins C (putD g y fs)))
theorem ds_setF {g : Str} {we : WE} {value : Expr} {pos' : Pos} (c : Cls X.K C) (n : NoAttr X.K C g) (ha : DE X o wo) (hv : DE X value we) (hs : swapsWith value (some (.Attribute o g pos')) pos.line X.env = pure false := by rfl) : DS X (.Assign [.Attribute o g pos'] value pos) (wSetF C g wo we) :=
  ps_imp (ps_fld ha hv hs) fun E σ H ⟨sd, S, E0, st, q, an⟩ => ⟨sd, S, _, st, q, fun y S1 v H1 q1 n1 s1 r1 => ⟨sd, S1, _, st.nx n1 s1, q1, fun d S2 u H2 ⟨a, fs, e, hS, hlt, q2⟩ n2 s2 r2 => by
    subst e
    obtain ⟨dx, l, hH, rf⟩ := s2 a _ hS
    refine ⟨a, C, dx, l, r2, hH, c, n, by rw [← rf.length]; exact hlt, ?_⟩
    have n3 : Nx S2 H2 (S2.set a (.ins C (putD g y fs))) (upd H2 a (.ins C dx (putF g v l))) := nx_put hS
    have s3 := srel_put s2 n3 ⟨dx, _, upd_same, RelF.nx n3 _ _ (rf.put (Rel.nx n2 _ _ r1) g)⟩
    exact an.nx _ _ _ _ q2 (n1.trans (n2.trans n3)) (st.nx (n1.trans (n2.trans n3)) s3)⟩⟩
end
end L2.DL

/-! DL4: a def's promise by its body; loops; list comprehensions -/
namespace L2.DL
open PySem PySem.Spec PyProof.Rows

/-! ### what a result is worth when objects are forgotten or change no more -/
structure Rf (S : SO) (d : D) (S0 : SO) (d0 : D) : Prop where
  sub : ∀ a, S a = none → S0 a = none
  srel : ∀ K H, SRel K S H → SRel K S0 H
  rel : ∀ K H v, SRel K S H → Rel K S H d v → Rel K S0 H d0 v
theorem Rf.refl (S : SO) (d : D) : Rf S d S d := ⟨fun _ h => h, fun _ _ h => h, fun _ _ _ _ h => h⟩
theorem Rf.trans {S S1 S2 : SO} {d d1 d2 : D} (a : Rf S d S1 d1) (b : Rf S1 d1 S2 d2) : Rf S d S2 d2 := ⟨fun x h => b.sub x (a.sub x h), fun K H h => b.srel K H (a.srel K H h), fun K H v s h => b.rel K H v (a.srel K H s) (a.rel K H v s h)⟩
theorem Rf.to {S S0 : SO} (d : D) (h : ∀ a o, S0 a = some o → S a = some o) : Rf S d S0 d := by
  have sub : ∀ a, S a = none → S0 a = none := fun a e => by
    cases q : S0 a with
    | none => rfl
    | some o =>
      rw [h a o q] at e
      cases e
  have nx : ∀ H, Nx S H S0 H := fun H a u h1 h2 => ⟨sub a h1, h2⟩
  exact ⟨sub, fun K H s a o q => (s a o (h a o q)).nx (nx H) rfl, fun K H v _ r => Rel.nx (nx H) d v r⟩
theorem Rf.drop (S : SO) (d : D) (p : Addr) : Rf S d (S.del p) d := .to d fun a o q => by
  unfold SO.del at q
  split at q
  · cases q
  · exact q
theorem Rf.lst {S : SO} {p : Addr} {ds : List D} (h : S p = some (.lst ds)) : Rf S (.obj p) (S.del p) (.lst ds) := by
  have z := Rf.drop S (.obj p) p
  refine ⟨z.sub, z.srel, fun K H v s r => ?_⟩
  have e : v = .ref p := r
  rw [e]
  exact (frz_lst s h).2.2
theorem Rf.dic {S : SO} {p : Addr} {t : Bool} {ds : List (D × D)} (h : S p = some (.dic t ds)) : Rf S (.obj p) (S.del p) (.dic t ds) := by
  have z := Rf.drop S (.obj p) p
  refine ⟨z.sub, z.srel, fun K H v s r => ?_⟩
  have e : v = .ref p := r
  rw [e]
  exact (frz_dic s h).2.2
theorem Rf.ins {S : SO} {p C : Addr} {fs : List (Str × D)} (h : S p = some (.ins C fs)) : Rf S (.obj p) (S.del p) (.ins C fs) := by
  have z := Rf.drop S (.obj p) p
  refine ⟨z.sub, z.srel, fun K H v s r => ?_⟩
  have e : v = .ref p := r
  rw [e]
  exact (frz_ins s h).2.2
/-- a list just made and filled here -/
theorem Rf.lstS {S : SO} {p : Addr} {ds : List D} (h : S p = none) : Rf (S.set p (.lst ds)) (.obj p) S (.lst ds) := by
  have z := Rf.lst (S := S.set p (.lst ds)) set_same
  rw [del_set h] at z
  exact z
theorem Rf.dropS {S : SO} {p : Addr} {o : DO} (d : D) (h : S p = none) : Rf (S.set p o) d S d := by
  have z := Rf.drop (S.set p o) d p
  rw [del_set h] at z
  exact z
theorem Rf.pair {S S1 S2 : SO} {a b a1 b1 : D} (h1 : Rf S a S1 a1) (h2 : Rf S1 b S2 b1) : Rf S (.tup [a, b]) S2 (.tup [a1, b1]) := by
  refine ⟨fun x h => h2.sub x (h1.sub x h), fun K H h => h2.srel K H (h1.srel K H h), fun K H v s r => ?_⟩
  obtain ⟨p, vs, e, t, rs⟩ := r
  obtain ⟨x, y, rfl, ra, rb⟩ := rs.two
  have n1 : Nx S H S1 H := fun a u q1 q2 => ⟨h1.sub a q1, q2⟩
  have n2 : Nx S1 H S2 H := fun a u q1 q2 => ⟨h2.sub a q1, q2⟩
  have s1 := h1.srel K H s
  exact ⟨p, _, e, (t.nx n1).nx n2, x, _, rfl, Rel.nx n2 _ _ (h1.rel K H x s ra), y, _, rfl, h2.rel K H y s1 (Rel.nx n1 _ _ rb), rfl⟩
/-- .. wanted of it -/
def Cl (Q : KD) : KD := fun d S' => ∃ d0 S0, Rf S' d S0 d0 ∧ Q d0 S0
theorem Cl.ans {K : PySem.W.Frag} {S : SO} {H : Hp} {Q0 : KD} {Q : VK} (an : Ans K S H Q0 Q) : Ans K S H (Cl Q0) Q := fun d S' v H' ⟨d0, S0, rf, q⟩ n s r =>
  an d0 S0 v H' q (fun a u h1 h2 => let ⟨p, q⟩ := n a u h1 h2; ⟨rf.sub a p, q⟩) (rf.srel K H' s) (rf.rel K H' v s r)
theorem Cl.of {Q : KD} {d : D} {S : SO} (h : Q d S) : Cl Q d S := ⟨d, S, .refl _ _, h⟩
def endsOf (Q : KD) : EndsD := { nx := fun _ S' => Cl Q .non S', rt := Cl Q }
def startD (N : List Str) (ds : List D) : SD := ds.map some ++ List.replicate (N.length - ds.length) none
theorem start_rel {K : PySem.W.Frag} {S : SO} {H : Hp} {N : List Str} {ds : List D} {vs : List V} (r : Rels K S H ds vs) : RelS K S H (startD N ds) (start N vs) := by
  have hl := r.length
  refine ⟨by unfold startD start; rw [List.length_append, List.length_append, List.length_map, List.length_map, List.length_replicate, List.length_replicate, hl], fun i d e => ?_⟩
  unfold startD at e
  by_cases hi : i < ds.length
  · rw [List.getElem?_append_left (by simpa using hi), List.getElem?_map] at e
    cases q : ds[i]? with
    | none =>
      rw [q] at e
      cases e
    | some d' =>
      rw [q] at e
      cases e
      obtain ⟨v, hv, rv⟩ := r.get q
      refine ⟨v, ?_, rv⟩
      unfold start
      rw [List.getElem?_append_left (by rw [List.length_map]; omega), List.getElem?_map, hv]
      rfl
  · rw [List.getElem?_append_right (by simpa using hi), List.getElem?_replicate] at e
    split at e <;> cases e
section
variable {P : Program} {w : World} {K : PySem.W.Frag} {mg : Str → Option Value} {base : Heap}
/-- THE RULE for a def -/
theorem fnD_ok {k : Nat} {f : Addr} {fd : FuncData} {qual : Str} {st : Stmt} {N ps : List Str} {sp : DSp} {w0 : WS} (F : FnAt K qual st f fd) (S : FnScope N ps (defScope st)) (len : ∀ ds S Q E, sp ds S Q E → ds.length = ps.length)
    (body : ∀ (cdv : Value) (A : Around) (outer : List Env) (s : Shared) (H : Hp) (E : XK), Room k (A.deeper (envOfC qual (defScope st) s.heap.objs.size f cdv)) → (A.deeper (envOfC qual (defScope st) s.heap.objs.size f cdv)).guards = some [] →
      DSs (cxOf CX0 P w K mg base N qual (defScope st) f cdv A outer s H E).nox (defBody st) w0)
    (hw : ∀ ds S Q E, sp ds S Q E → w0 (endsOf Q) (startD N ds) S) : FnD P w K mg base (k + 1) f fd ps sp := by
  refine fnG_body F S (fun vs H Q E ⟨ds, S, Q0, E0, _, r, h, _⟩ => by rw [← r.length]; exact len _ _ _ _ h) fun cdv A outer s H vs Q E hr hg ⟨ds, S, Q0, E0, sr, r, h, an, _⟩ => ?_
  refine ⟨_, (body cdv A outer s H E hr hg).nox, startD N ds, S, endsOf Q0, ⟨sr, start_rel r⟩, hw ds S Q0 E0 h, fun sd S' σ H' q n st => ?_, Cl.ans an, fun _ _ _ _ q => q.elim, fun _ _ _ _ q => q.elim⟩
  exact Cl.ans an .non S' .non H' q n st.s rfl
end

/-! ### what is walked -/
structure ItD where
  items : List D
  ok : SO → Prop
structure JRel (K : PySem.W.Frag) (S0 : SO) (H0 : Hp) (J : ItD) (JV : It) : Prop where
  go : ∀ i S H, Nx S0 H0 S H → SRel K S H → J.ok S → i < J.items.length → JV.go i H
  stop : ∀ i S H, Nx S0 H0 S H → SRel K S H → J.ok S → i = J.items.length → JV.stop i H
  yld : ∀ i S H x H' d, Nx S0 H0 S H → SRel K S H → J.ok S → J.items[i]? = some d → JV.yld i H x H' → Nx S H S H' ∧ SRel K S H' ∧ Rel K S H' d x
abbrev WI := SD → SO → (ItD → SO → Prop) → Prop
def liftI (K : PySem.W.Frag) (w : WI) : TI := fun σ H R => ∃ sd S R0, Sta K sd S σ H ∧ w sd S R0 ∧ ∀ J S' H' JV, R0 J S' → Nx S H S' H' → SRel K S' H' → JRel K S' H' J JV → R JV H'
abbrev DI (X : Cx) (tg iter : Expr) (w : WI) : Prop := PI X tg iter (liftI X.K w)
section
variable {X : Cx} {tg e : Expr} {we : WE} {pos : Pos}
theorem pi_imp {tg it : Expr} {t t' : TI} (h : PI X tg it t) (i : ∀ σ H R, t' σ H R → t σ H R) : PI X tg it t' := ⟨fun pins s σ H R I q => h.run pins s σ H R I (i σ H R q)⟩
/-- a list or a tuple by its items -/
def seqD (d : D) (S : SO) (R : List D → (SO → Prop) → Prop) : Prop := match d with
  | .lst xs => R xs fun _ => True
  | .src xs => R xs fun _ => True
  | .tup xs => R xs fun _ => True
  | .kt xs => R xs fun _ => True
  | .tf xs => R xs fun _ => True
  | .obj a => ∃ xs, S a = some (.lst xs) ∧ R xs fun S => S a = some (.lst xs)
  | _ => False
def wSeqI (we : WE) : WI := fun sd S R => we sd S fun d S1 => seqD d S1 fun xs ok => R ⟨xs, ok⟩ S1
theorem SqL.uniq {K : PySem.W.Frag} {S : SO} {H : Hp} {a : Addr} {xs : List D} (h : S a = some (.lst xs)) (s : SRel K S H) : ∃ vs, SqL K H a vs ∧ Rels K S H xs vs := let ⟨vs, e, r⟩ := s a _ h; ⟨vs, .of e, r⟩
theorem jrel_lst {K : PySem.W.Frag} {S0 : SO} {H0 : Hp} {a : Addr} {xs : List D} {ok : SO → Prop} (h : ∀ S H, Nx S0 H0 S H → SRel K S H → ok S → ∃ vs, SqL K H a vs ∧ Rels K S H xs vs) : JRel K S0 H0 ⟨xs, ok⟩ (Itl K a) where
  go := fun i S H n s o hi => by
    obtain ⟨vs, q, r⟩ := h S H n s o
    obtain ⟨v, hv, _⟩ := r.get (List.getElem?_eq_getElem hi)
    exact ⟨vs, v, q, hv⟩
  stop := fun i S H n s o hi => by
    obtain ⟨vs, q, r⟩ := h S H n s o
    exact ⟨vs, q, by rw [← r.length]; exact Nat.le_of_eq hi.symm⟩
  yld := fun i S H x H' d n s o hi y => by
    obtain ⟨vs, q, r⟩ := h S H n s o
    obtain ⟨rfl, y⟩ := y
    obtain ⟨v, hv, rv⟩ := r.get hi
    have e := y vs q
    rw [hv] at e
    cases e
    exact ⟨.refl _ _, s, rv⟩
theorem jrel_tup {K : PySem.W.Frag} {S0 : SO} {H0 : Hp} {a : Addr} {xs : List D} {ok : SO → Prop} (h : ∀ S H, Nx S0 H0 S H → SRel K S H → ok S → ∃ vs, SqT K H a vs ∧ Rels K S H xs vs) : JRel K S0 H0 ⟨xs, ok⟩ (Itt K a) where
  go := fun i S H n s o hi => by
    obtain ⟨vs, q, r⟩ := h S H n s o
    obtain ⟨v, hv, _⟩ := r.get (List.getElem?_eq_getElem hi)
    exact ⟨vs, v, q, hv⟩
  stop := fun i S H n s o hi => by
    obtain ⟨vs, q, r⟩ := h S H n s o
    exact ⟨vs, q, by rw [← r.length]; exact Nat.le_of_eq hi.symm⟩
  yld := fun i S H x H' d n s o hi y => by
    obtain ⟨vs, q, r⟩ := h S H n s o
    obtain ⟨rfl, y⟩ := y
    obtain ⟨v, hv, rv⟩ := r.get hi
    have e := y vs q
    rw [hv] at e
    cases e
    exact ⟨.refl _ _, s, rv⟩
def rList (K : PySem.W.Frag) : V → Hp → (It → Hp → Prop) → Prop := fun x H1 R => ∃ a, x = .ref a ∧ (∃ xs, SqL K H1 a xs) ∧ R (Itl K a) H1
def rTup (K : PySem.W.Frag) : V → Hp → (It → Hp → Prop) → Prop := fun x H1 R => ∃ a, x = .ref a ∧ (∃ xs, SqT K H1 a xs) ∧ R (Itt K a) H1
theorem iter_list {pins : List (Addr × Obj)} {s : Shared} {σ : St} {H : Hp} {x : V} {v : Value} {R : It → Hp → Prop} (I : Inv X pins σ H s) (rx : RelV x v) (h : rList X.K x H R) : wpAny (model X.prog X.w) X.A (pyIter v) (PIE X pins σ tg R) X.xe s := by
  obtain ⟨a, rfl, ⟨xs, hq⟩, q⟩ := h
  cases rx
  obtain ⟨its, rv, p, hz⟩ := I.list hq
  refine wpAny_pyIter_list p.isList ⟨s.heap.objs.size, [s.heap.objs.size], _, _, H, rfl, I.kept (t' := s.toks) fun b o e => Heap.get?_push_of_some _ e, turn_list a _, ⟨_, Heap.get?_push_size _ rfl, rfl, rfl⟩, fun b hb => ?_, q⟩
  obtain rfl : b = s.heap.objs.size := by simpa using hb
  exact I.fpOk (Nat.le_refl _) (I.hok.fresh (Nat.le_refl _))
theorem iter_tup {pins : List (Addr × Obj)} {s : Shared} {σ : St} {H : Hp} {x : V} {v : Value} {R : It → Hp → Prop} (I : Inv X pins σ H s) (rx : RelV x v) (h : rTup X.K x H R) : wpAny (model X.prog X.w) X.A (pyIter v) (PIE X pins σ tg R) X.xe s := by
  obtain ⟨a, rfl, ⟨xs, hq⟩, q⟩ := h
  cases rx
  obtain ⟨its, rv, p, hz⟩ := I.tuple hq
  refine wpAny_pyIter_tuple (show s.heap.IsTuple a its.toArray from p) ⟨s.heap.objs.size, [s.heap.objs.size], _, _, H, rfl, I.kept (t' := s.toks) fun b o e => Heap.get?_push_of_some _ e, turn_tuple a _, ⟨_, Heap.get?_push_size _ rfl, rfl, rfl⟩, fun b hb => ?_, q⟩
  obtain rfl : b = s.heap.objs.size := by simpa using hb
  exact I.fpOk (Nat.le_refl _) (I.hok.fresh (Nat.le_refl _))
theorem di_seq (he : DE X e we) : DI X tg e (wSeqI we) := by
  refine ⟨fun pins s σ H R I ⟨sd, S, R0, st, q, an⟩ => ?_⟩
  refine thn (he.run pins s σ H (fun v H1 => rList X.K v H1 R ∨ rTup X.K v H1 R) I ⟨sd, S, _, st, q, fun d S1 v H1 q1 n1 s1 r1 => ?_⟩) fun v s1 ⟨x, H1, I1, r1, q1⟩ => q1.elim (iter_list I1 r1) (iter_tup I1 r1)
  cases d with
  | lst xs =>
    obtain ⟨a, vs, e, t, hv, r⟩ := r1
    refine .inl ⟨a, e, ⟨vs, .of hv⟩, an _ _ _ _ q1 n1 s1 (jrel_lst fun S2 H2 n2 s2 _ => ⟨vs, .of (n2 a _ t hv).2, r.nx n2⟩)⟩
  | src xs =>
    obtain ⟨a, vs, e, t, r⟩ := r1
    refine .inl ⟨a, e, ⟨vs, t.sq⟩, an _ _ _ _ q1 n1 s1 (jrel_lst fun S2 H2 n2 s2 _ => ⟨vs, (t.nx n2).sq, r.nx n2⟩)⟩
  | tup xs =>
    obtain ⟨a, vs, e, t, r⟩ := r1
    refine .inr ⟨a, e, ⟨vs, t.sq⟩, an _ _ _ _ q1 n1 s1 (jrel_tup fun S2 H2 n2 s2 _ => ⟨vs, (t.nx n2).sq, r.nx n2⟩)⟩
  | tf xs =>
    obtain ⟨a, vs, e, t, r⟩ := r1
    refine .inr ⟨a, e, ⟨vs, t.sq⟩, an _ _ _ _ q1 n1 s1 (jrel_tup fun S2 H2 n2 s2 _ => ⟨vs, (t.nx n2).sq, r.nx n2⟩)⟩
  | kt xs =>
    obtain ⟨a, vs, e, t, r⟩ := r1
    refine .inr ⟨a, e, ⟨vs, t.sq⟩, an _ _ _ _ q1 n1 s1 (jrel_tup fun S2 H2 n2 s2 _ => ⟨vs, t.sq, r.nx n2⟩)⟩
  | obj a =>
    obtain ⟨xs, hx, q1⟩ := q1
    obtain ⟨vs, hq, r⟩ := SqL.uniq hx s1
    exact .inl ⟨a, r1, ⟨vs, hq⟩, an _ _ _ _ q1 n1 s1 (jrel_lst fun S2 H2 n2 s2 o => SqL.uniq o s2)⟩
  | _ => exact False.elim q1
/-- range(n), range(a, b) -/
def rangeD (a b : Int) : List D := (List.range (b - a).toNat).map fun i => .int (a + (i : Nat))
theorem rangeD_get {a b : Int} {i : Nat} {d : D} (h : (rangeD a b)[i]? = some d) : d = .int (a + i) ∧ i < (b - a).toNat := by
  unfold rangeD at h
  rw [List.getElem?_map] at h
  by_cases hi : i < (b - a).toNat
  · rw [List.getElem?_range hi] at h
    exact ⟨(Option.some.inj h).symm, hi⟩
  · rw [List.getElem?_eq_none (by simpa using hi)] at h
    cases h
theorem rangeD_len {a b : Int} : (rangeD a b).length = (b - a).toNat := by unfold rangeD; rw [List.length_map, List.length_range]
theorem jrel_rng {K : PySem.W.Frag} {S0 : SO} {H0 : Hp} {a b : Int} {ok : SO → Prop} : JRel K S0 H0 ⟨rangeD a b, ok⟩ (Itr a (b - a).toNat) where
  go := fun i S H n s o hi => by
    rw [rangeD_len] at hi
    exact hi
  stop := fun i S H n s o hi => by
    rw [rangeD_len] at hi
    exact Nat.le_of_eq hi.symm
  yld := fun i S H x H' d n s o hi y => by
    obtain ⟨rfl, rfl⟩ := y
    obtain ⟨rfl, _⟩ := rangeD_get hi
    exact ⟨.refl _ _, s, rfl⟩
/-- the arguments are one int, two ints -/
def int1 (xs : List D) (k : Int → Prop) : Prop := match xs with
  | [.int j] => k j
  | _ => False
def int2 (xs : List D) (k : Int → Int → Prop) : Prop := match xs with
  | [.int i, .int j] => k i j
  | _ => False
theorem int1_of {xs : List D} {k : Int → Prop} (h : int1 xs k) : ∃ j, xs = [.int j] ∧ k j := by
  unfold int1 at h
  split at h
  · exact ⟨_, rfl, h⟩
  · exact h.elim
theorem int2_of {xs : List D} {k : Int → Int → Prop} (h : int2 xs k) : ∃ i j, xs = [.int i, .int j] ∧ k i j := by
  unfold int2 at h
  split at h
  · exact ⟨_, _, rfl, h⟩
  · exact h.elim
theorem Rels.int1 {K : PySem.W.Frag} {S : SO} {H : Hp} {j : Int} {vs : List V} (r : Rels K S H [.int j] vs) : vs = [.int j] := by
  obtain ⟨v, r', rfl, rv, e⟩ := r
  have e' : r' = [] := e
  have ev : v = .int j := rv
  rw [e', ev]
theorem Rels.int2 {K : PySem.W.Frag} {S : SO} {H : Hp} {i j : Int} {vs : List V} (r : Rels K S H [.int i, .int j] vs) : vs = [.int i, .int j] := by
  obtain ⟨v, u, rfl, rv, ru⟩ := r.two
  have ev : v = .int i := rv
  have eu : u = .int j := ru
  rw [ev, eu]
def wRng1 (w : WA) : WI := fun sd S R => w sd S fun xs S1 => int1 xs fun j => -(2 ^ 62) ≤ j ∧ j < 2 ^ 62 ∧ R ⟨rangeD 0 j, fun _ => True⟩ S1
def wRng2 (w : WA) : WI := fun sd S R => w sd S fun xs S1 => int2 xs fun i j => (-(2 ^ 62) ≤ i ∧ i < 2 ^ 62 ∧ -(2 ^ 62) ≤ j ∧ j < 2 ^ 62) ∧ R ⟨rangeD i j, fun _ => True⟩ S1
theorem di_rng1 {a : Expr} {w : WA} {p pos : Pos} (hm : X.mg "range" = none) (ha : DA X [a] w) (hg : Gl X "range" := by rfl) (hs : starEach [a] X.env = [(false, eval a X.env)] := by rfl) : DI X tg (.Call (.Name "range" p) [a] [] pos) (wRng1 w) := by
  refine pi_imp (pi_range1 hg hm ha hs) fun σ H R ⟨sd, S, R0, st, q, an⟩ => ⟨sd, S, _, st, q, fun xs S1 vs H1 q1 n1 s1 r1 => ?_⟩
  obtain ⟨j, rfl, h1, h2, q1⟩ := int1_of q1
  refine ⟨j, r1.int1, h1, h2, an _ _ _ _ q1 n1 s1 ?_⟩
  have z := jrel_rng (K := X.K) (S0 := S1) (H0 := H1) (a := 0) (b := j) (ok := fun _ => True)
  rwa [Int.sub_zero] at z
/-! ### for, while -/
structure ForD (wi : WI) (g : WG) (b : WS) (E : EndsD) (sd : SD) (S : SO) : Prop where
  ex : wi sd S fun J S1 => ∃ Pv : Nat → SD → SO → Prop, Pv 0 sd S1 ∧ (∀ i sd S, Pv i sd S → J.ok S) ∧
  (∀ i d sd S, J.items[i]? = some d → Pv i sd S → g d sd S fun sd' S' => b { nx := Pv (i + 1), rt := E.rt, bk := E.nx, ct := Pv (i + 1) } sd' S') ∧ (∀ sd S, Pv J.items.length sd S → E.nx sd S)
def wFor (wi : WI) (g : WG) (b : WS) : WS := fun E sd S => ForD wi g b E sd S
theorem ds_for {iter : Expr} {body : List Stmt} {wi : WI} {g : WG} {b : WS} (hp : PassesOwn (model X.prog X.w) X.A X.env X.xe) (hc : X.calm = true) (hi : DI X tg iter wi) (hg : DG X tg g) (hb : DSs X body b) (hs : ∀ x, foldedSetIterable iter X.env x = pure x := by intro _; rfl) :
    DS X (.For tg iter body [] pos) (wFor wi g b) := by
  refine ps_imp (ps_for hp hc hi hg hb hs) fun E σ H ⟨sd, S, E0, st, q, an⟩ => ⟨sd, S, _, st, q.ex, fun J S1 H1 JV ⟨Pv, h0, hok, hst, hend⟩ n1 s1 jr => ?_⟩
  refine ⟨fun i m σ' H' => ∃ sd' S', m = J.items.length - i ∧ i ≤ J.items.length ∧ Pv i sd' S' ∧ Sta X.K sd' S' σ' H' ∧ Nx S1 H1 S' H', ⟨J.items.length, sd, S1, by simp, Nat.zero_le _, h0, st.nx n1 s1, .refl _ _⟩, ?_⟩
  rintro i m σ' H' ⟨sd', S', rfl, hile, hp', st', n'⟩
  have o := hok i sd' S' hp'
  by_cases hlt : i < J.items.length
  · refine .inr ⟨jr.go i S' H' n' st'.s o hlt, _, fun σ2 H2 (h : ∃ sd2 S2, Pv (i + 1) sd2 S2 ∧ Sta X.K sd2 S2 σ2 H2 ∧ Nx S1 H1 S2 H2) => ?_, fun x H2 hy => ?_⟩
    · obtain ⟨sd2, S2, h1, h2, h3⟩ := h
      exact ⟨J.items.length - (i + 1), by omega, sd2, S2, rfl, hlt, h1, h2, h3⟩
    · have hi' := List.getElem?_eq_getElem hlt
      obtain ⟨n2, s2, r2⟩ := jr.yld i S' H' x H2 _ n' st'.s o hi' hy
      refine ⟨_, sd', S', _, st'.nx n2 s2, r2, hst i _ sd' S' hi' hp', fun sd3 S3 σ3 H3 q3 n3 st3 => ?_⟩
      have nn := n'.trans (n2.trans n3)
      refine ⟨sd3, S3, _, st3, q3, fun sd4 S4 σ4 H4 q4 n4 st4 => ⟨sd4, S4, q4, st4, nn.trans n4⟩, an.rt.nx (n1.trans nn), an.nx.nx (n1.trans nn), fun sd4 S4 σ4 H4 q4 n4 st4 => ⟨sd4, S4, q4, st4, nn.trans n4⟩⟩
  · have e : i = J.items.length := by omega
    subst e
    exact .inl ⟨jr.stop _ S' H' n' st'.s o rfl, an.nx _ _ _ _ (hend sd' S' hp') (n1.trans n') st'⟩
end
end L2.DL

/-! DL5: list comprehensions -/
namespace L2.DL
open PySem PySem.Spec PyProof.Rows

def wipeD (sd : SD) : List Nat → SD
  | [] => sd
  | v :: vs => (wipeD sd vs).set v none
theorem wipe_get (σ : St) (vs : List Nat) (j : Nat) : (wipe σ vs)[j]? = if j ∈ vs then (σ[j]?).map (fun _ => none) else σ[j]? := by
  induction vs with
  | nil => simp [wipe]
  | cons v vs ih =>
    unfold wipe
    by_cases hj : v = j
    · subst hj
      by_cases hl : v < (wipe σ vs).length
      · rw [List.getElem?_set_self hl]
        rw [wipe_length] at hl
        rw [if_pos (List.mem_cons_self ..), List.getElem?_eq_getElem hl]
        rfl
      · rw [wipe_length] at hl
        have e : σ[v]? = none := List.getElem?_eq_none (by omega)
        rw [List.getElem?_eq_none (by rw [List.length_set, wipe_length]; omega), e]
        simp
    · rw [List.getElem?_set_ne hj, ih]
      by_cases hm : j ∈ vs
      · rw [if_pos hm, if_pos (List.mem_cons_of_mem _ hm)]
      · rw [if_neg hm, if_neg (by simp only [List.mem_cons, not_or]; exact ⟨fun e => hj e.symm, hm⟩)]
theorem wipe_set {σ : St} {vs : List Nat} {i : Nat} {x : Option V} (h : i ∈ vs) : wipe (σ.set i x) vs = wipe σ vs := by
  refine List.ext_getElem? fun j => ?_
  rw [wipe_get, wipe_get]
  by_cases hj : j ∈ vs
  · rw [if_pos hj, if_pos hj]
    by_cases hi : i = j
    · subst hi
      by_cases hl : i < σ.length
      · rw [List.getElem?_set_self hl, List.getElem?_eq_getElem hl]
        rfl
      · rw [List.getElem?_eq_none (by rw [List.length_set]; omega), List.getElem?_eq_none (by omega)]
    · rw [List.getElem?_set_ne hi]
  · rw [if_neg hj, if_neg hj, List.getElem?_set_ne fun e => hj (by rw [← e]; exact h)]
theorem wipe_wipe {σ : St} {vs : List Nat} : wipe (wipe σ vs) vs = wipe σ vs := by
  refine List.ext_getElem? fun j => ?_
  rw [wipe_get, wipe_get]
  by_cases hj : j ∈ vs
  · rw [if_pos hj, if_pos hj]
    cases σ[j]? with
    | none => rfl
    | some x => rfl
  · rw [if_neg hj, if_neg hj]
theorem wipeD_some {sd : SD} {i : Nat} {d : D} : ∀ {vs : List Nat}, (wipeD sd vs)[i]? = some (some d) → sd[i]? = some (some d) ∧ i ∉ vs
  | [], h => ⟨h, by simp⟩
  | v :: vs, h => by
    unfold wipeD at h
    by_cases hi : v = i
    · subst hi
      by_cases hv : v < (wipeD sd vs).length
      · rw [List.getElem?_set_self hv] at h
        cases h
      · rw [List.getElem?_eq_none (by simpa using hv)] at h
        cases h
    · rw [List.getElem?_set_ne hi] at h
      obtain ⟨h1, h2⟩ := wipeD_some h
      exact ⟨h1, by simp only [List.mem_cons, not_or]; exact ⟨fun e => hi e.symm, h2⟩⟩
theorem wipeD_length (sd : SD) : ∀ vs : List Nat, (wipeD sd vs).length = sd.length
  | [] => rfl
  | v :: vs => by unfold wipeD; rw [List.length_set, wipeD_length sd vs]
theorem Sta.wipe {K : PySem.W.Frag} {sd : SD} {S : SO} {σ : St} {H : Hp} (h : Sta K sd S σ H) (vs : List Nat) : Sta K (wipeD sd vs) S (L2.wipe σ vs) H := by
  refine ⟨h.s, by rw [wipeD_length, wipe_length]; exact h.r.1, fun i d e => ?_⟩
  obtain ⟨e1, e2⟩ := wipeD_some e
  obtain ⟨v, hv, r⟩ := h.r.2 i d e1
  exact ⟨v, by rw [wipe_out e2]; exact hv, r⟩

/-- a block's target: a name, a tuple of names -/
inductive NT where
  | n (i : Nat)
  | t (l : List Nat)
def NT.ix : NT → List Nat
  | .n i => [i]
  | .t l => l
def gNs : List Nat → TGs
  | [] => gNil
  | i :: l => gCons (gName i) (gNs l)
def gNT (K : PySem.W.Frag) : NT → TG
  | .n i => gName i
  | .t l => gTup K l.length (gNs l)
def putAll : List Nat → List D → SD → SD
  | i :: l, d :: ds, sd => putAll l ds (sd.set i (some d))
  | _, _, sd => sd
/-- the slots with the target's names set -/
def putNT : NT → D → SD → (SD → Prop) → Prop
  | .n i, d, sd, k => k (sd.set i (some d))
  | .t l, d, sd, k => match d with
    | .tup xs => xs.length = l.length ∧ k (putAll l xs sd)
    | _ => False
theorem gNs_go {K : PySem.W.Frag} {S : SO} {H : Hp} {vs : List Nat} {Q : St → Hp → Prop} : ∀ {l : List Nat} {ds : List D} {us : List V} {sd : SD} {σ : St}, (∀ i ∈ l, i ∈ vs) → ds.length = l.length → Rels K S H ds us → Sta K sd S σ H →
    (∀ σ2, Sta K (putAll l ds sd) S σ2 H → wipe σ2 vs = wipe σ vs → Q σ2 H) → gNs l us σ H Q
  | [], ds, us, sd, σ, hl, e, r, st, h => by
    cases ds with
    | nil =>
      have eu : us = [] := r
      exact ⟨eu, h σ st rfl⟩
    | cons _ _ => simp at e
  | i :: l, ds, us, sd, σ, hl, e, r, st, h => by
    cases ds with
    | nil => simp at e
    | cons d ds =>
      obtain ⟨v, r', rfl, rv, rr⟩ := r
      refine ⟨v, r', rfl, ?_⟩
      refine gNs_go (l := l) (fun j hj => hl j (List.mem_cons_of_mem _ hj)) (by simpa using e) rr (st.set i rv) fun σ2 st2 hw => h σ2 st2 ?_
      rw [hw, wipe_set (hl i (List.mem_cons_self ..))]
theorem nt_go {K : PySem.W.Frag} {S : SO} {H : Hp} {vs : List Nat} {Q : St → Hp → Prop} {nt : NT} {d : D} {v : V} {sd : SD} {σ : St} {k : SD → Prop} (hs : ∀ i ∈ nt.ix, i ∈ vs) (st : Sta K sd S σ H) (r : Rel K S H d v) (hk : putNT nt d sd k)
    (h : ∀ sd2 σ2, k sd2 → Sta K sd2 S σ2 H → wipe σ2 vs = wipe σ vs → Q σ2 H) : gNT K nt v σ H Q := by
  cases nt with
  | n i => exact h _ _ hk (st.set i r) (wipe_set (hs i (List.mem_cons_self ..)))
  | t l =>
    cases d with
    | tup xs =>
      obtain ⟨hl, hk⟩ := hk
      obtain ⟨a, us, e, t, rr⟩ := r
      exact ⟨a, us, e, t.sq, by rw [← rr.length]; exact hl, gNs_go hs hl rr st fun σ2 st2 hw => h _ σ2 hk st2 hw⟩
    | _ => exact False.elim hk

abbrev DTs (X : Cx) (ifs : List Expr) (w : WT) : Prop := PTs X ifs (liftT X.K w)
def wYes : WT := fun _ S Q => Q true S
section
variable {X : Cx}
theorem dts_nil : DTs X [] wYes := ⟨fun pins s σ H Q I ⟨sd, S, Q0, st, q, an⟩ => pts_nil.run pins s σ H Q I (an _ _ _ q (Nx.refl _ _) st.s)⟩
theorem dts_one {c : Expr} {w : WT} (h : DT X c w) : DTs X [c] w := pts_one h
/-- a reading with its wish weakened -/
def up (we : WE) : WE := fun sd S Q => ∃ Q0 : KD, we sd S Q0 ∧ ∀ d S', Q0 d S' → Q d S'
def upT (tt : WT) : WT := fun sd S Q => ∃ Q0 : Bool → SO → Prop, tt sd S Q0 ∧ ∀ d S', Q0 d S' → Q d S'
theorem up_lift {K : PySem.W.Frag} {we : WE} {σ : St} {H : Hp} {Q : VK} (h : lift K (up we) σ H Q) : lift K we σ H Q := let ⟨sd, S, Q0, st, ⟨Q1, q, i⟩, an⟩ := h; ⟨sd, S, Q1, st, q, fun d S' v H' q' => an d S' v H' (i d S' q')⟩
theorem upT_lift {K : PySem.W.Frag} {we : WT} {σ : St} {H : Hp} {Q : Bool → Hp → Prop} (h : liftT K (upT we) σ H Q) : liftT K we σ H Q := let ⟨sd, S, Q0, st, ⟨Q1, q, i⟩, an⟩ := h; ⟨sd, S, Q1, st, q, fun d S' H' q' => an d S' H' (i d S' q')⟩
/-- a list comprehension: p the new list, which the element may not touch; R what is wanted behind it -/
structure LcG (wi : WI) (nt : NT) (tt : WT) (we : WE) (vs : List Nat) (R : Addr → SO → Prop) (sd : SD) (S : SO) : Prop where
  ex : wi sd S fun J S1 => ∀ p, S1 p = none → ∃ Pv : Nat → SO → Prop, Pv 0 (S1.set p (.lst [])) ∧ (∀ i S, Pv i S → J.ok S) ∧
  (∀ i d S, J.items[i]? = some d → Pv i S → putNT nt d (wipeD sd vs) fun sd2 => upT tt sd2 S fun b S2 => if b = true then up we sd2 S2 fun y S3 => ∃ acc, S3 p = some (.lst acc) ∧ acc.length ≤ 1000000 ∧ Pv (i + 1) (S3.set p (.lst (acc ++ [y]))) else Pv (i + 1) S2) ∧
  (∀ S, Pv J.items.length S → R p S)
theorem lcG_tLc {wi : WI} {nt : NT} {tt : WT} {we : WE} {vs : List Nat} {R : Addr → SO → Prop} {σ : St} {H : Hp} {Q : VK} {sd : SD} {S : SO} (hs : ∀ i ∈ nt.ix, i ∈ vs) (st : Sta X.K sd S σ H) (q : LcG wi nt tt we vs R sd S)
    (hR : ∀ p S' H', R p S' → Nx S H S' H' → SRel X.K S' H' → Q (.ref p) H') : tLc (liftI X.K wi) (gNT X.K nt) (liftT X.K tt) (lift X.K we) vs σ H Q := by
  refine ⟨sd, S, _, st, q.ex, fun J S1 H1 JV q1 n1 s1 jr p hp => ?_⟩
  obtain ⟨Pv, h0, hok, hst, hend⟩ := q1 p (s1.free hp)
  have n2 : Nx S1 H1 (S1.set p (.lst [])) (upd H1 p (.lst [])) := nx_obj hp (s1.free hp)
  have s2 : SRel X.K (S1.set p (.lst [])) (upd H1 p (.lst [])) := srel_put s1 n2 ⟨[], upd_same, rfl⟩
  refine ⟨fun i m H' => ∃ S', m = J.items.length - i ∧ i ≤ J.items.length ∧ Pv i S' ∧ SRel X.K S' H' ∧ Nx S1 H1 S' H', ⟨J.items.length, _, by simp, Nat.zero_le _, h0, s2, n2⟩, ?_⟩
  rintro i m H' ⟨S', rfl, hile, hp', s', n'⟩
  have o := hok i S' hp'
  by_cases hlt : i < J.items.length
  · refine .inr ⟨jr.go i S' H' n' s' o hlt, fun H2 => ∃ S2, Pv (i + 1) S2 ∧ SRel X.K S2 H2 ∧ Nx S1 H1 S2 H2, fun H2 ⟨S2, h1, h2, h3⟩ => ⟨J.items.length - (i + 1), by omega, S2, rfl, hlt, h1, h2, h3⟩, fun x H2 hy => ?_⟩
    have hi' := List.getElem?_eq_getElem hlt
    obtain ⟨n3, s3, r3⟩ := jr.yld i S' H' x H2 _ n' s' o hi' hy
    have nn := n'.trans n3
    refine nt_go hs ((st.nx (n1.trans nn) s3).wipe vs) r3 (hst i _ S' hi' hp') fun sd2 σ2 hk st2 hw => ⟨by rw [hw, wipe_wipe], upT_lift ?_⟩
    refine ⟨sd2, S', _, st2, hk, fun b S4 H4 q4 n4 s4 => ?_⟩
    cases b with
    | false => exact ⟨S4, q4, s4, nn.trans n4⟩
    | true =>
      refine up_lift ⟨sd2, S4, _, st2.nx n4 s4, q4, fun y S5 v H5 ⟨acc, ha, hl, q5⟩ n5 s5 r5 => ?_⟩
      obtain ⟨us, hu, ru⟩ := s5 p _ ha
      have n6 : Nx S5 H5 (S5.set p (.lst (acc ++ [y]))) (upd H5 p (.lst (us ++ [v]))) := nx_put ha
      exact ⟨us, hu, by rw [← ru.length]; exact Nat.lt_of_le_of_lt hl (by rw [sizeLine_eq]; decide), _, q5, srel_put s5 n6 ⟨_, upd_same, (ru.app (.one r5)).nx n6⟩, nn.trans (n4.trans (n5.trans n6))⟩
  · have e : i = J.items.length := by omega
    subst e
    exact .inl ⟨jr.stop _ S' H' n' s' o rfl, hR p S' H' (hend S' hp') (n1.trans n') s'⟩
/-- .. the new list an object; frozen at the end -/
def wLc (wi : WI) (nt : NT) (tt : WT) (we : WE) (vs : List Nat) : WE := fun sd S Q => LcG wi nt tt we vs (fun p S' => Q (.obj p) S') sd S
def wLcF (wi : WI) (nt : NT) (tt : WT) (we : WE) (vs : List Nat) : WE := fun sd S Q => LcG wi nt tt we vs (fun p S' => ∃ acc, S' p = some (.lst acc) ∧ Q (.lst acc) (S'.del p)) sd S
/-- .. and its element and test change nothing and look at nothing that changes: the list is f of the items -/
def Ext (S S' : SO) : Prop := ∀ a o, S a = some o → S' a = some o
structure LcP (wi : WI) (nt : NT) (tt : WT) (we : WE) (vs : List Nat) (sd : SD) (S : SO) (Q : KD) : Prop where
  ex : ∃ R : ItD → SO → Prop, wi sd S R ∧ ∀ J S1, R J S1 → (∀ S', Ext S1 S' → J.ok S') ∧ J.items.length ≤ 1000000 ∧ ∃ f : D → Option D, (∀ d ∈ J.items, ∀ S', Ext S1 S' → putNT nt d (wipeD sd vs) fun sd2 =>
  tt sd2 S' fun b S2 => S2 = S' ∧ if b = true then up we sd2 S' fun y S3 => S3 = S' ∧ f d = some y else f d = none) ∧ Q (.lst (J.items.filterMap f)) S1
def wLcP (wi : WI) (nt : NT) (tt : WT) (we : WE) (vs : List Nat) : WE := fun sd S Q => LcP wi nt tt we vs sd S Q
theorem ext_set {S : SO} {p : Addr} {o : DO} (h : S p = none) : Ext S (S.set p o) := fun a u e => by rw [set_ne (so_ne e h)]; exact e
theorem lcP_turn {nt : NT} {tt : WT} {we : WE} {vs : List Nat} {sd : SD} {S1 : SO} {J : ItD} {f : D → Option D} {p : Addr} {i : Nat} {d : D} (hl : J.items.length ≤ 1000000) (hi : J.items[i]? = some d)
    (h : ∀ S', Ext S1 S' → putNT nt d (wipeD sd vs) fun sd2 => tt sd2 S' fun b S2 => S2 = S' ∧ if b = true then up we sd2 S' fun y S3 => S3 = S' ∧ f d = some y else f d = none) (hp : S1 p = none) :
    putNT nt d (wipeD sd vs) fun sd2 => upT tt sd2 (S1.set p (.lst ((J.items.take i).filterMap f))) fun b S2 => if b = true then up we sd2 S2 fun y S3 => ∃ acc, S3 p = some (.lst acc) ∧ acc.length ≤ 1000000 ∧ S3.set p (.lst (acc ++ [y])) = S1.set p (.lst ((J.items.take (i + 1)).filterMap f))
      else S2 = S1.set p (.lst ((J.items.take (i + 1)).filterMap f)) := by
  have hn := h _ (ext_set (o := .lst ((J.items.take i).filterMap f)) hp)
  have htk : (J.items.take (i + 1)).filterMap f = (J.items.take i).filterMap f ++ (f d).toList := by
    rw [List.take_add_one, hi, List.filterMap_append]
    cases q : f d with
    | none => simp [q]
    | some y => simp [q]
  have hlen : ((J.items.take i).filterMap f).length ≤ 1000000 := by
    have h1 := List.length_filterMap_le f (J.items.take i)
    have h2 : (J.items.take i).length ≤ J.items.length := by rw [List.length_take]; omega
    omega
  have go : ∀ sd2, (tt sd2 (S1.set p (.lst ((J.items.take i).filterMap f))) fun b S2 => S2 = S1.set p (.lst ((J.items.take i).filterMap f)) ∧ if b = true then up we sd2 (S1.set p (.lst ((J.items.take i).filterMap f))) fun y S3 => S3 = S1.set p (.lst ((J.items.take i).filterMap f)) ∧ f d = some y else f d = none) →
      upT tt sd2 (S1.set p (.lst ((J.items.take i).filterMap f))) fun b S2 => if b = true then up we sd2 S2 fun y S3 => ∃ acc, S3 p = some (.lst acc) ∧ acc.length ≤ 1000000 ∧ S3.set p (.lst (acc ++ [y])) = S1.set p (.lst ((J.items.take (i + 1)).filterMap f)) else S2 = S1.set p (.lst ((J.items.take (i + 1)).filterMap f)) := by
    intro sd2 hh
    refine ⟨_, hh, fun b S2 ⟨e2, q2⟩ => ?_⟩
    subst e2
    cases b with
    | false =>
      have q2' : f d = none := q2
      show _ = _
      rw [htk, q2']
      simp
    | true =>
      obtain ⟨Q0, q3, i3⟩ := q2
      refine ⟨Q0, q3, fun y S3 q4 => ?_⟩
      obtain ⟨e3, q5⟩ := i3 y S3 q4
      subst e3
      refine ⟨_, set_same, hlen, ?_⟩
      rw [set_set, htk, q5]
      rfl
  cases nt with
  | n j => exact go _ hn
  | t l =>
    cases d with
    | tup xs => exact ⟨hn.1, go _ hn.2⟩
    | _ => exact False.elim hn
variable {elt tg iter : Expr} {ifs : List Expr} {scope : Scope} {own : List (Str × Nat)} {pos : Pos} {wi : WI} {nt : NT} {tt : WT} {we : WE}
theorem lcP_tLc {σ : St} {H : Hp} {Q : VK} (hx : ∀ i ∈ nt.ix, i ∈ own.map (·.2)) (h : lift X.K (wLcP wi nt tt we (own.map (·.2))) σ H Q) : tLc (liftI X.K wi) (gNT X.K nt) (liftT X.K tt) (lift X.K we) (own.map (·.2)) σ H Q := by
  obtain ⟨sd, S, Q0, st, ⟨R, q, i⟩, an⟩ := h
  refine ⟨sd, S, R, st, q, fun J S1 H1 JV qR n1 s1 jr => ?_⟩
  obtain ⟨hok, hl, f, hf, q1⟩ := i J S1 qR
  obtain ⟨sd', S', R0, st', q', an'⟩ := lcG_tLc (X := X) (wi := fun _ S R => S = S1 ∧ R J S1) (R := fun p S' => S' = S1.set p (.lst (J.items.filterMap f)) ∧ S1 p = none) (Q := Q) hx (st.nx n1 s1) ⟨⟨rfl, fun p hp => ⟨fun i S => S = S1.set p (.lst ((J.items.take i).filterMap f)), by simp, fun i S e => by rw [e]; exact hok _ (ext_set hp),
      fun i d S hi e => by subst e; exact lcP_turn hl hi (hf d (List.mem_of_getElem? hi)) hp, fun S e => ⟨by rw [e, List.take_length], hp⟩⟩⟩⟩
    fun p S' H' ⟨e, hp⟩ n' s' => by
      subst e
      obtain ⟨n2, s2, r2⟩ := frz_lst s' set_same
      rw [del_set hp] at n2 s2 r2
      exact an _ _ _ _ q1 (n1.trans (n'.trans n2)) s2 r2
  obtain ⟨rfl, q'⟩ := q'
  exact an' J S' H1 JV q' (.refl _ _) st'.s jr
abbrev Blk (X : Cx) (scope : Scope) (T : Cx → Prop) : Prop := ∀ (s : Shared) (H : Hp) (C : Addr) (cl : List (Str × Addr)) (fp : List Addr), T (X.blk s H scope (compEnvC scope cl C X.env) fp)
theorem de_lc (hc : X.calm = true) (hN : X.N.Nodup) (hi : DI X tg iter wi) (ok : BlkOk X.N X.env.scope scope own) (hx : ∀ i ∈ nt.ix, i ∈ own.map (·.2)) (hg : Blk X scope fun Y => PG Y tg (gNT X.K nt)) (ht : Blk X scope fun Y => PTs Y ifs (liftT X.K tt)) (he : Blk X scope fun Y => PE Y elt (lift X.K we))
    (hs : ∀ x, foldedSetIterable iter X.env x = pure x := by intro _; rfl) : DE X (.ListComp elt [⟨tg, iter, ifs, 0⟩] scope pos) (wLc wi nt tt we (own.map (·.2))) :=
  pe_imp (pe_lc hc hN hi ok hg ht he hs) fun σ H Q ⟨sd, S, Q0, st, q, an⟩ => lcG_tLc hx st q fun p S' H' q' n' s' => an _ _ _ _ q' n' s' rfl
theorem de_lcF (hc : X.calm = true) (hN : X.N.Nodup) (hi : DI X tg iter wi) (ok : BlkOk X.N X.env.scope scope own) (hx : ∀ i ∈ nt.ix, i ∈ own.map (·.2)) (hg : Blk X scope fun Y => PG Y tg (gNT X.K nt)) (ht : Blk X scope fun Y => PTs Y ifs (liftT X.K tt)) (he : Blk X scope fun Y => PE Y elt (lift X.K we))
    (hs : ∀ x, foldedSetIterable iter X.env x = pure x := by intro _; rfl) : DE X (.ListComp elt [⟨tg, iter, ifs, 0⟩] scope pos) (wLcF wi nt tt we (own.map (·.2))) :=
  pe_imp (pe_lc hc hN hi ok hg ht he hs) fun σ H Q ⟨sd, S, Q0, st, q, an⟩ => lcG_tLc hx st q fun p S' H' ⟨acc, ha, q'⟩ n' s' => by
    obtain ⟨n2, s2, r2⟩ := frz_lst s' ha
    exact an _ _ _ _ q' (n'.trans n2) s2 r2
theorem de_lcP (hc : X.calm = true) (hN : X.N.Nodup) (hi : DI X tg iter wi) (ok : BlkOk X.N X.env.scope scope own) (hx : ∀ i ∈ nt.ix, i ∈ own.map (·.2)) (hg : Blk X scope fun Y => PG Y tg (gNT X.K nt)) (ht : Blk X scope fun Y => PTs Y ifs (liftT X.K tt)) (he : Blk X scope fun Y => PE Y elt (lift X.K we))
    (hs : ∀ x, foldedSetIterable iter X.env x = pure x := by intro _; rfl) : DE X (.ListComp elt [⟨tg, iter, ifs, 0⟩] scope pos) (wLcP wi nt tt we (own.map (·.2))) :=
  pe_imp (pe_lc hc hN hi ok hg ht he hs) fun σ H Q h => lcP_tLc hx h
/-- name = [..], stored within the comprehension -/
theorem setLc_lift {i : Nat} {wl : WE} {E : Ends} {σ : St} {H : Hp} {wi : WI} {nt : NT} {tt : WT} {we : WE} {vs : List Nat} (hh : ∀ Q, lift X.K wl σ H Q → tLc (liftI X.K wi) (gNT X.K nt) (liftT X.K tt) (lift X.K we) vs σ H Q)
    (h : liftS X.K (wAsg wl (gV i)) E σ H) : tAsg (tLc (liftI X.K wi) (gNT X.K nt) (liftT X.K tt) (lift X.K we) vs) (gName i) E σ H := by
  obtain ⟨sd, S, E0, st, q, an⟩ := h
  exact hh _ ⟨sd, S, _, st, q, fun d S1 v H1 q1 n1 s1 r1 => an.nx _ _ _ _ q1 n1 ((st.nx n1 s1).set i r1)⟩
theorem ds_setLcP {i : Nat} {y : Str} {py spos : Pos} (hc : X.calm = true) (hN : X.N.Nodup) (hi : DI X tg iter wi) (ok : BlkOk X.N X.env.scope scope own) (hx : ∀ i ∈ nt.ix, i ∈ own.map (·.2)) (hg : Blk X scope fun Y => PG Y tg (gNT X.K nt)) (ht : Blk X scope fun Y => PTs Y ifs (liftT X.K tt)) (he : Blk X scope fun Y => PE Y elt (lift X.K we))
    (hy : X.N[i]? = some y := by rfl) (hyl : X.env.scope.names.lookup y = some .local := by rfl) (hsw : swapsWith (.ListComp elt [⟨tg, iter, ifs, 0⟩] scope pos) (some (.Name y py)) spos.line X.env = pure true := by exact sw_true rfl rfl rfl (by decide +kernel)) (hs : ∀ x, foldedSetIterable iter X.env x = pure x := by intro _; rfl) :
    DS X (.Assign [.Name y py] (.ListComp elt [⟨tg, iter, ifs, 0⟩] scope pos) spos) (wAsg (wLcP wi nt tt we (own.map (·.2))) (gV i)) := ps_imp (ps_setLc hc hN hy hyl hsw hi ok hg ht he hs) fun E σ H h => setLc_lift (fun Q h => lcP_tLc hx h) h
end
end L2.DL

/-! DL6: operators, comparisons, built-ins over data -/
namespace L2.DL
open PySem PySem.Spec PyProof.Rows

/-! ### plain data -/
mutual
def pyD : D → Option PyData
  | .non => some .none
  | .bl b => some (.bool b)
  | .int i => some (.int i)
  | .str x => some (.str x)
  | .tup ds => (pyDs ds).map .tuple
  | .kt ds => (pyDs ds).map .tuple
  | .tf ds => (pyDs ds).map .tuple
  | .lst ds => (pyDs ds).map .list
  | .src ds => (pyDs ds).map .list
  | .ty _ => none
  | .dic _ _ => none
  | .fd _ _ => none
  | .gh _ _ => none
  | .ins _ _ => none
  | .obj _ => none
def pyDs : List D → Option (List PyData)
  | [] => some []
  | d :: ds => (pyD d).bind fun p => (pyDs ds).map fun ps => p :: ps
end
/-- the items of a list that may change -/
def objL : Option DO → Option (List D)
  | some (.lst ds) => some ds
  | _ => none
theorem objL_of {o : Option DO} {ds : List D} (h : objL o = some ds) : o = some (.lst ds) := by
  cases o with
  | none => cases h
  | some u =>
    cases u with
    | lst xs =>
      cases h
      rfl
    | _ => cases h
/-- .. also of a list that may change -/
def pyS (S : SO) : D → Option PyData
  | .obj a => (objL (S a)).bind fun ds => (pyDs ds).map .list
  | d => pyD d
section
variable {K : PySem.W.Frag} {S : SO} {H : Hp}
mutual
theorem rel_dp : ∀ (d : D) (v : V) (p : PyData), Rel K S H d v → pyD d = some p → Dp K H v p
  | .non, v, p, r, e => by
    cases e
    have r' : v = .non := r
    rw [r']
    exact .non
  | .bl b, v, p, r, e => by
    cases e
    have r' : v = .bl b := r
    rw [r']
    exact .bl b
  | .int b, v, p, r, e => by
    cases e
    have r' : v = .int b := r
    rw [r']
    exact .int b
  | .str b, v, p, r, e => by
    cases e
    have r' : v = .str b := r
    rw [r']
    exact .str b
  | .ty _, _, _, _, e => by cases e
  | .dic _ _, _, _, _, e => by cases e
  | .fd _ _, _, _, _, e => by cases e
  | .gh _ _, _, _, _, e => by cases e
  | .ins _ _, _, _, _, e => by cases e
  | .obj _, _, _, _, e => by cases e
  | .tup ds, v, p, r, e => by
    obtain ⟨ps, hp, rfl⟩ := Option.map_eq_some_iff.mp (show (pyDs ds).map PyData.tuple = some p from e)
    obtain ⟨a, vs, rfl, t, r⟩ := r
    exact .tup t.sq (rels_dp ds vs ps r hp)
  | .kt ds, v, p, r, e => by
    obtain ⟨ps, hp, rfl⟩ := Option.map_eq_some_iff.mp (show (pyDs ds).map PyData.tuple = some p from e)
    obtain ⟨a, vs, rfl, t, r⟩ := r
    exact .tup t.sq (rels_dp ds vs ps r hp)
  | .tf ds, v, p, r, e => by
    obtain ⟨ps, hp, rfl⟩ := Option.map_eq_some_iff.mp (show (pyDs ds).map PyData.tuple = some p from e)
    obtain ⟨a, vs, rfl, t, r⟩ := r
    exact .tup t.sq (rels_dp ds vs ps r hp)
  | .lst ds, v, p, r, e => by
    obtain ⟨ps, hp, rfl⟩ := Option.map_eq_some_iff.mp (show (pyDs ds).map PyData.list = some p from e)
    obtain ⟨a, vs, rfl, _, t, r⟩ := r
    exact .lst (.of t) (rels_dp ds vs ps r hp)
  | .src ds, v, p, r, e => by
    obtain ⟨ps, hp, rfl⟩ := Option.map_eq_some_iff.mp (show (pyDs ds).map PyData.list = some p from e)
    obtain ⟨a, vs, rfl, t, r⟩ := r
    exact .lst t.sq (rels_dp ds vs ps r hp)
theorem rels_dp : ∀ (ds : List D) (vs : List V) (ps : List PyData), Rels K S H ds vs → pyDs ds = some ps → DpAll K H vs ps
  | [], vs, ps, r, e => by
    cases e
    have r' : vs = [] := r
    rw [r']
    exact .nil
  | d :: ds, vs, ps, r, e => by
    obtain ⟨p, hp, e2⟩ := Option.bind_eq_some_iff.mp (show (pyD d).bind (fun p => (pyDs ds).map fun ps => p :: ps) = some ps from e)
    obtain ⟨qs, hq, rfl⟩ := Option.map_eq_some_iff.mp e2
    obtain ⟨v, us, rfl, r1, r2⟩ := r
    exact .cons (rel_dp d v p r1 hp) (rels_dp ds us qs r2 hq)
end
theorem relS_dp {d : D} {v : V} {p : PyData} (s : SRel K S H) (r : Rel K S H d v) (e : pyS S d = some p) : Dp K H v p := by
  cases d with
  | obj a =>
    obtain ⟨ds, hs, e2⟩ := Option.bind_eq_some_iff.mp (show (objL (S a)).bind (fun ds => (pyDs ds).map PyData.list) = some p from e)
    obtain ⟨ps, hp, rfl⟩ := Option.map_eq_some_iff.mp e2
    obtain ⟨vs, hv, rv⟩ := s a _ (objL_of hs)
    have r' : v = .ref a := r
    rw [r']
    exact .lst (.of hv) (rels_dp ds vs ps rv hp)
  | _ => exact rel_dp _ v p r e
end
/-- the items of a list, of a sequence -/
def lstD (S : SO) : D → Option (List D)
  | .lst xs => some xs
  | .obj a => objL (S a)
  | _ => none
theorem lstD_at {K : PySem.W.Frag} {S : SO} {H : Hp} {d : D} {v : V} {xs : List D} (s : SRel K S H) (r : Rel K S H d v) (e : lstD S d = some xs) : ∃ a vs, v = .ref a ∧ H a = some (.lst vs) ∧ Rels K S H xs vs := by
  cases d with
  | lst ys =>
    cases e
    obtain ⟨a, vs, h1, _, h2, h3⟩ := r
    exact ⟨a, vs, h1, h2, h3⟩
  | obj a =>
    obtain ⟨vs, hv, rv⟩ := s a _ (objL_of e)
    exact ⟨a, vs, r, hv, rv⟩
  | _ => cases e
/-- a list or tuple, read -/
def seqX (S : SO) : D → Option (List D)
  | .tup xs => some xs
  | .kt xs => some xs
  | .tf xs => some xs
  | .src xs => some xs
  | d => lstD S d
theorem seqX_at {K : PySem.W.Frag} {S : SO} {H : Hp} {d : D} {v : V} {xs : List D} (s : SRel K S H) (r : Rel K S H d v) (e : seqX S d = some xs) : ∃ a vs, v = .ref a ∧ (SqL K H a vs ∨ SqT K H a vs) ∧ Rels K S H xs vs := by
  have via : ∀ {d : D}, Rel K S H d v → lstD S d = some xs → ∃ a vs, v = .ref a ∧ (SqL K H a vs ∨ SqT K H a vs) ∧ Rels K S H xs vs := fun r e => let ⟨a, vs, h1, h2, h3⟩ := lstD_at s r e; ⟨a, vs, h1, .inl (.of h2), h3⟩
  cases d with
  | tup ys =>
    cases e
    obtain ⟨a, vs, h1, h2, h3⟩ := r
    exact ⟨a, vs, h1, .inr h2.sq, h3⟩
  | kt ys =>
    cases e
    obtain ⟨a, vs, h1, h2, h3⟩ := r
    exact ⟨a, vs, h1, .inr h2.sq, h3⟩
  | tf ys =>
    cases e
    obtain ⟨a, vs, h1, h2, h3⟩ := r
    exact ⟨a, vs, h1, .inr h2.sq, h3⟩
  | src ys =>
    cases e
    obtain ⟨a, vs, h1, h2, h3⟩ := r
    exact ⟨a, vs, h1, .inl h2.sq, h3⟩
  | _ => exact via r e

section
variable {X : Cx}
theorem ansd {K : PySem.W.Frag} {S : SO} {H : Hp} {Q0 : KD} {Q : VK} (d : D) {v : V} (s : SRel K S H) (an : Ans K S H Q0 Q) (q : Q0 d S) (r : Rel K S H d v) : Q v H := an d S v H q (.refl _ _) s r
/-! ### arithmetic -/
def opI2 (C : Int → Int → Prop) (g : Int → Int → D) : WO := fun x y S Q => match x with
  | .int i => (match y with
    | .int j => C i j ∧ Q (g i j) S
    | _ => False)
  | _ => False
theorem opI2_of {C : Int → Int → Prop} {g : Int → Int → D} {x y : D} {S : SO} {Q : KD} (h : opI2 C g x y S Q) : ∃ i j, x = .int i ∧ y = .int j ∧ C i j ∧ Q (g i j) S := by
  unfold opI2 at h
  split at h
  · split at h
    · exact ⟨_, _, rfl, rfl, h.1, h.2⟩
    · exact h.elim
  · exact h.elim
theorem do_I2 {f : Value → Value → Sem Value} {C : Int → Int → Prop} {g : Int → Int → D} {gv : Int → Int → V} (h : OpR X f (rI C gv)) (hg : ∀ i j K S H, Rel K S H (g i j) (gv i j)) : DO2 X f (opI2 C g) := by
  intro pins s σ H x y v u Q I rx ry ⟨dx, dy, S, Q0, sr, r1, r2, q, an⟩
  obtain ⟨i, j, rfl, rfl, hc, q⟩ := opI2_of q
  have e1 : x = .int i := r1
  have e2 : y = .int j := r2
  exact h pins s σ H x y v u Q I rx ry ⟨i, j, e1, e2, hc, ansd _ sr an q (hg i j _ _ _)⟩
theorem do_I2' {f : Value → Value → Sem Value} {g : Int → Int → D} {gv : Int → Int → V} (h : OpR X f (rI0 gv)) (hg : ∀ i j K S H, Rel K S H (g i j) (gv i j)) : DO2 X f (opI2 (fun _ _ => True) g) := by
  intro pins s σ H x y v u Q I rx ry ⟨dx, dy, S, Q0, sr, r1, r2, q, an⟩
  obtain ⟨i, j, rfl, rfl, hc, q⟩ := opI2_of q
  have e1 : x = .int i := r1
  have e2 : y = .int j := r2
  exact h pins s σ H x y v u Q I rx ry ⟨i, j, e1, e2, ansd _ sr an q (hg i j _ _ _)⟩
def oSub : WO := opI2 (fun _ _ => True) fun i j => .int (i - j)
theorem do_sub : DO2 X (binaryOp .Sub) oSub := do_I2' op_sub fun _ _ _ _ _ => rfl
def oMod : WO := opI2 (fun _ j => 0 < j) fun i j => .int (i % j)
theorem do_mod : DO2 X (binaryOp .Mod) oMod := do_I2 op_mod fun _ _ _ _ _ => rfl
def oDiv : WO := opI2 CDiv fun i j => .int (i / j)
theorem do_div : DO2 X (binaryOp .FloorDiv) oDiv := do_I2 op_fdiv fun _ _ _ _ _ => rfl
def oPow : WO := opI2 CPow fun i j => .int (i ^ j.toNat)
theorem do_pow : DO2 X (binaryOp .Pow) oPow := do_I2 op_pow fun _ _ _ _ _ => rfl
def oAnd : WO := opI2 (fun _ _ => True) fun i j => .int (Builtin.bitAnd i j)
def oOr : WO := opI2 (fun _ _ => True) fun i j => .int (Builtin.bitOr i j)
def oLt : WO := opI2 (fun _ _ => True) fun i j => .bl (decide (i < j))
theorem do_lt : DO2 X (compareOp .Lt) oLt := do_I2' op_lt fun _ _ _ _ _ => rfl
def oLe : WO := opI2 (fun _ _ => True) fun i j => .bl (decide (i ≤ j))
theorem do_le : DO2 X (compareOp .LtE) oLe := do_I2' op_le fun _ _ _ _ _ => rfl
def oGt : WO := opI2 (fun _ _ => True) fun i j => .bl (decide (j < i))
theorem do_gt : DO2 X (compareOp .Gt) oGt := do_I2' op_gt fun _ _ _ _ _ => rfl
def oGe : WO := opI2 (fun _ _ => True) fun i j => .bl (decide (j ≤ i))
theorem do_ge : DO2 X (compareOp .GtE) oGe := do_I2' op_ge fun _ _ _ _ _ => rfl
def oNeg : WU := fun x S Q => match x with
  | .int i => Q (.int (-i)) S
  | _ => False
theorem do_neg : DO1 X (unaryOp .USub) oNeg := by
  intro pins s σ H x v Q I rx ⟨dx, S, Q0, sr, r1, q, an⟩
  cases dx with
  | int i =>
    have e1 : x = .int i := r1
    exact un_neg pins s σ H x v Q I rx ⟨i, e1, ansd (.int (-i)) sr an q rfl⟩
  | _ => exact False.elim q
/-- + -/
def addL (a b : Option (List D)) (S : SO) (Q : KD) : Prop := match a, b with
  | some a, some b => a.length + b.length ≤ 1000000 ∧ Q (.lst (a ++ b)) S
  | _, _ => False
theorem addL_of {a b : Option (List D)} {S : SO} {Q : KD} (h : addL a b S Q) : ∃ x y, a = some x ∧ b = some y ∧ x.length + y.length ≤ 1000000 ∧ Q (.lst (x ++ y)) S := by
  cases a with
  | none => exact h.elim
  | some x =>
    cases b with
    | none => exact h.elim
    | some y => exact ⟨x, y, rfl, rfl, h.1, h.2⟩
def oAdd : WO := fun x y S Q => match x with
  | .int i => (match y with
    | .int j => Q (.int (i + j)) S
    | _ => False)
  | .str a => (match y with
    | .str b => a.length + b.length ≤ 1000000 ∧ Q (.str (a ++ b)) S
    | _ => False)
  | .tup a => (match y with
    | .tup b => a.length + b.length ≤ 1000000 ∧ Q (.tup (a ++ b)) S
    | _ => False)
  | d => addL (lstD S d) (lstD S y) S Q
theorem add_lists {dx dy : D} {S : SO} {Q0 : KD} {x y : V} {v u : Value} {pins : List (Addr × Obj)} {s : Shared} {σ : St} {H : Hp} {Q : VK} (I : Inv X pins σ H s) (rx : RelV x v) (ry : RelV y u) (sr : SRel X.K S H) (r1 : Rel X.K S H dx x) (r2 : Rel X.K S H dy y) (an : Ans X.K S H Q0 Q)
    (q : addL (lstD S dx) (lstD S dy) S Q0) : wpAny (model X.prog X.w) X.A (binaryOp .Add v u) (EP X pins σ Q) X.xe s := by
  obtain ⟨a, b, h1, h2, hl, q⟩ := addL_of q
  obtain ⟨l, vs, e1, h3, rv⟩ := lstD_at sr r1 h1
  obtain ⟨l', us, e2, h4, ru⟩ := lstD_at sr r2 h2
  refine op_cat pins s σ H x y v u Q I rx ry ⟨l, l', vs, us, e1, e2, h3, h4, by rw [← rv.length, ← ru.length]; exact le_line hl, fun p hp => ?_⟩
  exact an _ _ _ _ q (nx_new hp) (sr.new hp) ⟨p, _, rfl, sr.free hp, upd_same, (rv.app ru).nx (nx_new hp)⟩
theorem do_add : DO2 X (binaryOp .Add) oAdd := by
  intro pins s σ H x y v u Q I rx ry ⟨dx, dy, S, Q0, sr, r1, r2, q, an⟩
  cases dx with
  | int i =>
    cases dy with
    | int j => exact op_add pins s σ H x y v u Q I rx ry ⟨i, j, r1, r2, ansd (.int (i + j)) sr an q rfl⟩
    | _ => exact False.elim q
  | str a =>
    cases dy with
    | str b => exact op_add_str pins s σ H x y v u Q I rx ry ⟨a, b, r1, r2, le_line q.1, ansd (.str (a ++ b)) sr an q.2 rfl⟩
    | _ => exact False.elim q
  | tup a =>
    cases dy with
    | tup b =>
      obtain ⟨hl, q⟩ := q
      obtain ⟨p1, vs, e1, t1, rv⟩ := r1
      obtain ⟨p2, us, e2, t2, ru⟩ := r2
      have rvu := rv.app ru
      refine op_catA pins s σ H x y v u Q I rx ry ⟨p1, p2, vs, us, e1, e2, t1.sq, t2.sq, by rw [← rv.length, ← ru.length]; exact le_line hl, fun e => ?_, fun _ e => ?_, fun _ _ p hp => ?_⟩
      · subst e
        exact ansd _ sr an q ⟨p2, us, rfl, t2, rvu⟩
      · subst e
        rw [List.append_nil] at rvu
        exact ansd _ sr an q ⟨p1, vs, rfl, t1, rvu⟩
      · exact an _ _ _ _ q (nx_new hp) (sr.new hp) ⟨p, _, rfl, ⟨sr.free hp, upd_same⟩, rvu.nx (nx_new hp)⟩
    | _ => exact False.elim q
  | _ => exact add_lists I rx ry sr r1 r2 an q
/-- * -/
def mulL (a : Option (List D)) (y : D) (S : SO) (Q : KD) : Prop := ∃ xs k, a = some xs ∧ y = .int k ∧ 0 ≤ k ∧ k ≤ 1000 ∧ xs.length ≤ 1000 ∧ Q (.lst (List.replicate k.toNat xs).flatten) S
def oMul : WO := fun x y S Q => match x with
  | .int i => (match y with
    | .int j => CMul i j ∧ Q (.int (i * j)) S
    | _ => False)
  | .str a => (match y with
    | .int n => a.length ≤ 1000 ∧ n ≤ 1000 ∧ -1000 ≤ n ∧ Q (.str (Txt.mul a n)) S
    | _ => False)
  | d => mulL (lstD S d) y S Q
theorem mulOk_small {x : Str} {n : Int} (h1 : x.length ≤ 1000) (h2 : n ≤ 1000) (h3 : -1000 ≤ n) : MulOk x n := by
  refine ⟨by rw [decide_eq_false (by omega), decide_eq_false (by omega)]; rfl, fun h _ => ?_, fun h _ => ?_⟩
  · have hn : 0 < n := by omega
    intro hgt
    have h4 : (2 ^ 63 - 1 : Int) / n ≥ (2 ^ 63 - 1) / 1000 := by
      rw [ge_iff_le, Int.le_ediv_iff_mul_le hn]
      have : (2 ^ 63 - 1 : Int) / 1000 * n ≤ (2 ^ 63 - 1 : Int) / 1000 * 1000 := Int.mul_le_mul_of_nonneg_left h2 (by decide)
      omega
    have h5 : (2 ^ 63 - 1 : Int) / 1000 > 1000 := by decide
    omega
  · have h4 : x.length * n.toNat ≤ 1000 * 1000 := Nat.mul_le_mul h1 (by omega)
    have h5 : x.length * n.toNat ≤ sizeLine := le_line h4
    exact decide_eq_false (by omega)
theorem Rels.rep {K : PySem.W.Frag} {S : SO} {H : Hp} {a : List D} {vs : List V} (r : Rels K S H a vs) : ∀ n : Nat, Rels K S H (List.replicate n a).flatten (List.replicate n vs).flatten
  | 0 => rfl
  | n + 1 => by
    rw [List.replicate_succ, List.replicate_succ, List.flatten_cons, List.flatten_cons]
    exact r.app (r.rep n)
theorem mul_lists {dx dy : D} {S : SO} {Q0 : KD} {x y : V} {v u : Value} {pins : List (Addr × Obj)} {s : Shared} {σ : St} {H : Hp} {Q : VK} (I : Inv X pins σ H s) (rx : RelV x v) (ry : RelV y u) (sr : SRel X.K S H) (r1 : Rel X.K S H dx x) (r2 : Rel X.K S H dy y) (an : Ans X.K S H Q0 Q)
    (q : mulL (lstD S dx) dy S Q0) : wpAny (model X.prog X.w) X.A (binaryOp .Mult v u) (EP X pins σ Q) X.xe s := by
  obtain ⟨a, k, h1, rfl, h0, h2, h3, q⟩ := q
  obtain ⟨l, vs, e1, hl, rv⟩ := lstD_at sr r1 h1
  have e2 : y = .int k := r2
  refine op_rep pins s σ H x y v u Q I rx ry ⟨l, k, vs, e1, e2, hl, by omega, by omega, ?_, fun p hp => ?_⟩
  · rw [← rv.length]
    have h4 : a.length * k.toNat ≤ 1000 * 1000 := Nat.mul_le_mul h3 (by omega)
    exact le_line h4
  · exact an _ _ _ _ q (nx_new hp) (sr.new hp) ⟨p, _, rfl, sr.free hp, upd_same, (rv.rep _).nx (nx_new hp)⟩
theorem do_mul : DO2 X (binaryOp .Mult) oMul := by
  intro pins s σ H x y v u Q I rx ry ⟨dx, dy, S, Q0, sr, r1, r2, q, an⟩
  cases dx with
  | int i =>
    cases dy with
    | int j => exact op_mul pins s σ H x y v u Q I rx ry ⟨i, j, r1, r2, q.1, ansd (.int (i * j)) sr an q.2 rfl⟩
    | _ => exact False.elim q
  | str a =>
    cases dy with
    | int n =>
      have e1 : x = .str a := r1
      have e2 : y = .int n := r2
      subst e1 e2
      obtain ⟨t, rfl⟩ := rx
      obtain ⟨t', rfl⟩ := ry
      obtain ⟨h1, h2, h3, q⟩ := q
      exact SB.mul (mulOk_small h1 h2 h3) fun t2 k => ⟨.str _, H, I.tok k, ⟨t2, rfl⟩, ansd (.str (Txt.mul a n)) sr an q rfl⟩
    | _ => exact False.elim q
  | _ => exact mul_lists I rx ry sr r1 r2 an q
/-! ### ==, in, is -/
/-- x == y told by data -/
def eqG (x y : D) (S : SO) (k : Bool → Prop) : Prop := ∃ p q, pyS S x = some p ∧ pyS S y = some q ∧ SeqAt.shaped p = true ∧ SeqAt.shaped q = true ∧ k (PyData.eqv p q)
def eqD (x y : D) (S : SO) (k : Bool → Prop) : Prop := match x with
  | .int i => (match y with
    | .int j => k (decide (i = j))
    | y => eqG (.int i) y S k)
  | .str a => (match y with
    | .str b => k (decide (a = b))
    | y => eqG (.str a) y S k)
  | x => eqG x y S k
theorem eqD_cases {x y : D} {S : SO} {k : Bool → Prop} (h : eqD x y S k) : (∃ i j, x = .int i ∧ y = .int j ∧ k (decide (i = j))) ∨ (∃ a b, x = .str a ∧ y = .str b ∧ k (decide (a = b))) ∨ eqG x y S k := by
  cases x with
  | int i =>
    cases y with
    | int j => exact .inl ⟨i, j, rfl, rfl, h⟩
    | _ => exact .inr (.inr h)
  | str a =>
    cases y with
    | str j => exact .inr (.inl ⟨a, j, rfl, rfl, h⟩)
    | _ => exact .inr (.inr h)
  | _ => exact .inr (.inr h)
def oEq : WO := fun x y S Q => eqD x y S fun b => Q (.bl b) S
def oNe : WO := fun x y S Q => eqD x y S fun b => Q (.bl (!b)) S
theorem do_eq (hu : X.A.units + 65 < cLine) : DO2 X (compareOp .Eq) oEq := by
  intro pins s σ H x y v u Q I rx ry ⟨dx, dy, S, Q0, sr, r1, r2, q, an⟩
  rcases eqD_cases q with ⟨i, j, rfl, rfl, q⟩ | ⟨i, j, rfl, rfl, q⟩ | ⟨p, q, h1, h2, h3, h4, qq⟩
  · have e1 : x = .int i := r1
    have e2 : y = .int j := r2
    subst e1 e2
    refine op_eq pins s σ H _ _ v u Q I rx ry ⟨rfl, ?_⟩
    have e : decide (V.int i = V.int j) = decide (i = j) := by simp
    rw [e]
    exact ansd (.bl _) sr an q rfl
  · have e1 : x = .str i := r1
    have e2 : y = .str j := r2
    subst e1 e2
    refine op_eq pins s σ H _ _ v u Q I rx ry ⟨rfl, ?_⟩
    have e : decide (V.str i = V.str j) = decide (i = j) := by simp
    rw [e]
    exact ansd (.bl _) sr an q rfl
  · exact op_eqD (by omega) pins s σ H x y v u Q I rx ry ⟨p, q, relS_dp sr r1 h1, relS_dp sr r2 h2, h3, h4, ansd (.bl _) sr an qq rfl⟩
theorem do_ne (hu : X.A.units + 65 < cLine) : DO2 X (compareOp .NotEq) oNe := by
  intro pins s σ H x y v u Q I rx ry ⟨dx, dy, S, Q0, sr, r1, r2, q, an⟩
  rcases eqD_cases q with ⟨i, j, rfl, rfl, q⟩ | ⟨i, j, rfl, rfl, q⟩ | ⟨p, q, h1, h2, h3, h4, qq⟩
  · have e1 : x = .int i := r1
    have e2 : y = .int j := r2
    subst e1 e2
    refine op_ne pins s σ H _ _ v u Q I rx ry ⟨rfl, ?_⟩
    have e : decide (V.int i = V.int j) = decide (i = j) := by simp
    rw [e]
    exact ansd (.bl _) sr an q rfl
  · have e1 : x = .str i := r1
    have e2 : y = .str j := r2
    subst e1 e2
    refine op_ne pins s σ H _ _ v u Q I rx ry ⟨rfl, ?_⟩
    have e : decide (V.str i = V.str j) = decide (i = j) := by simp
    rw [e]
    exact ansd (.bl _) sr an q rfl
  · exact op_neD (by omega) pins s σ H x y v u Q I rx ry ⟨p, q, relS_dp sr r1 h1, relS_dp sr r2 h2, h3, h4, ansd (.bl _) sr an qq rfl⟩
def isNon : D → Bool
  | .non => true
  | .gh d _ => isNon d
  | _ => false
def oIsN : WO := fun x y S Q => y = .non ∧ Q (.bl (isNon x)) S
def oNotN : WO := fun x y S Q => y = .non ∧ Q (.bl (!isNon x)) S
theorem rel_non0 {K : PySem.W.Frag} {S : SO} {H : Hp} (d : D) (v : V) (ih : ∀ d' u, d = .gh d' u → Rel K S H d' u → decide (u = V.non) = isNon d') (r : Rel K S H d v) : decide (v = V.non) = isNon d := by
  have no : ∀ {u : V}, v = u → decide (u = V.non) = isNon d → decide (v = V.non) = isNon d := fun e h => by rw [e]; exact h
  cases d with
  | non => exact no (u := .non) r rfl
  | bl b => exact no (u := .bl b) r rfl
  | int b => exact no (u := .int b) r rfl
  | str b => exact no (u := .str b) r rfl
  | ty b => exact no (u := .ty b) r rfl
  | obj b => exact no (u := .ref b) r rfl
  | tup ds => exact let ⟨_, _, e, _⟩ := r; no e rfl
  | kt ds => exact let ⟨_, _, e, _⟩ := r; no e rfl
  | tf ds => exact let ⟨_, _, e, _⟩ := r; no e rfl
  | lst ds => exact let ⟨_, _, e, _⟩ := r; no e rfl
  | src ds => exact let ⟨_, _, e, _⟩ := r; no e rfl
  | dic t ds => exact let ⟨_, e, _⟩ := r; no e rfl
  | fd t ds => exact let ⟨_, e, _⟩ := r; no e rfl
  | ins C ds => exact let ⟨_, _, _, e, _⟩ := r; no e rfl
  | gh d u =>
    obtain ⟨e, r⟩ := r
    subst e
    exact ih d v rfl r
theorem rel_nonN {K : PySem.W.Frag} {S : SO} {H : Hp} : ∀ (n : Nat) (d : D) (v : V), sizeOf d < n → Rel K S H d v → decide (v = V.non) = isNon d
  | 0, _, _, h, _ => absurd h (Nat.not_lt_zero _)
  | n + 1, d, v, hn, r => rel_non0 d v (fun d' u e r' => rel_nonN n d' u (by
      subst e
      simp only [D.gh.sizeOf_spec] at hn
      omega) r') r
theorem rel_non {K : PySem.W.Frag} {S : SO} {H : Hp} {d : D} {v : V} (r : Rel K S H d v) : decide (v = V.non) = isNon d := rel_nonN _ d v (Nat.lt_succ_self _) r
theorem do_isN : DO2 X (compareOp .Is) oIsN := by
  intro pins s σ H x y v u Q I rx ry ⟨dx, dy, S, Q0, sr, r1, r2, ⟨e, q⟩, an⟩
  subst e
  have e2 : y = .non := r2
  exact op_isN pins s σ H x y v u Q I rx ry ⟨e2, by rw [rel_non r1]; exact ansd (.bl _) sr an q rfl⟩
theorem do_notN : DO2 X (compareOp .IsNot) oNotN := by
  intro pins s σ H x y v u Q I rx ry ⟨dx, dy, S, Q0, sr, r1, r2, ⟨e, q⟩, an⟩
  subst e
  have e2 : y = .non := r2
  exact op_notN pins s σ H x y v u Q I rx ry ⟨e2, by rw [rel_non r1]; exact ansd (.bl _) sr an q rfl⟩
end
end L2.DL

/-! DL7: containers: in, subscripts, slices, dicts; built-ins by values -/
namespace L2.DL
open PySem PySem.Spec PyProof.Rows

/-! ### dicts as data -/
section
open Classical
noncomputable def dget (kvs : List (D × D)) (k : D) : Option D := (kvs.find? fun p => decide (p.1 = k)).map (·.2)
noncomputable def dput (kvs : List (D × D)) (k v : D) : List (D × D) := if (dget kvs k).isSome = true then kvs.map fun p => if p.1 = k then (p.1, v) else p else kvs ++ [(k, v)]
theorem dget_nil {k : D} : dget [] k = none := rfl
theorem dget_cons {k k' d : D} {kvs : List (D × D)} : dget ((k', d) :: kvs) k = if k' = k then some d else dget kvs k := by
  unfold dget
  rw [List.find?_cons]
  by_cases e : k' = k
  · rw [if_pos e, decide_eq_true e]
    rfl
  · rw [if_neg e, decide_eq_false e]
theorem dget_put {kvs : List (D × D)} {k v k' : D} : dget (dput kvs k v) k' = if k = k' then some v else dget kvs k' := by
  have app : ∀ (l : List (D × D)), dget (l ++ [(k, v)]) k' = if (dget l k').isSome then dget l k' else if k = k' then some v else none := by
    intro l
    induction l with
    | nil =>
      rw [List.nil_append, dget_cons, dget_nil]
      rfl
    | cons p l ih =>
      obtain ⟨a, b⟩ := p
      rw [List.cons_append, dget_cons, dget_cons]
      by_cases e : a = k'
      · rw [if_pos e, if_pos e]
        rfl
      · rw [if_neg e, if_neg e]
        exact ih
  have mp : ∀ (l : List (D × D)), dget (l.map fun p => if p.1 = k then (p.1, v) else p) k' = if k = k' then (dget l k').map (fun _ => v) else dget l k' := by
    intro l
    induction l with
    | nil =>
      rw [List.map_nil, dget_nil]
      split <;> rfl
    | cons p l ih =>
      obtain ⟨a, b⟩ := p
      rw [List.map_cons]
      show dget ((if a = k then (a, v) else (a, b)) :: _) k' = _
      by_cases e : a = k
      · rw [if_pos e, dget_cons, dget_cons]
        by_cases e2 : a = k'
        · have e3 : k = k' := e.symm.trans e2
          rw [if_pos e2, if_pos e2, if_pos e3]
          rfl
        · have e3 : ¬ k = k' := fun z => e2 (e.trans z)
          rw [if_neg e2, if_neg e2, ih]
      · rw [if_neg e, dget_cons, dget_cons]
        by_cases e2 : a = k'
        · have e3 : ¬ k = k' := fun z => e (e2.trans z.symm)
          rw [if_pos e2, if_pos e2, if_neg e3]
        · rw [if_neg e2, if_neg e2, ih]
  unfold dput
  by_cases h : (dget kvs k).isSome = true
  · rw [if_pos h, mp]
    by_cases e : k = k'
    · subst e
      rw [if_pos rfl, if_pos rfl]
      obtain ⟨d, hd⟩ := Option.isSome_iff_exists.mp h
      rw [hd]
      rfl
    · rw [if_neg e, if_neg e]
  · rw [if_neg h, app]
    by_cases e : k = k'
    · subst e
      rw [if_neg h, if_pos rfl, if_pos rfl]
    · rw [if_neg e, if_neg e]
      cases hk : dget kvs k' with
      | none => rfl
      | some d => rfl
theorem dput_new {kvs : List (D × D)} {k v : D} (h : dget kvs k = none) : dput kvs k v = kvs ++ [(k, v)] := by
  unfold dput
  rw [h]
  exact if_neg (by simp)
theorem dput_length (kvs : List (D × D)) (k v : D) : (dput kvs k v).length ≤ kvs.length + 1 := by
  unfold dput
  split
  · rw [List.length_map]
    omega
  · rw [List.length_append, List.length_singleton]
    exact Nat.le_refl _
end
def keyOf : D → Option Key
  | .int i => some (.inl i)
  | .str x => some (.inr x)
  | _ => none
def keysOf : List D → Option (List Key)
  | [] => some []
  | d :: ds => (keyOf d).bind fun k => (keysOf ds).map fun ks => k :: ks
theorem keyOf_eq {d : D} {k : Key} (h : keyOf d = some k) : d = keyD k := by
  cases d with
  | int i =>
    cases h
    rfl
  | str i =>
    cases h
    rfl
  | _ => cases h
theorem keysOf_eq : ∀ {ds : List D} {ks : List Key}, keysOf ds = some ks → ds = ks.map keyD
  | [], ks, h => by
    cases h
    rfl
  | d :: ds, ks, h => by
    obtain ⟨k, h1, h2⟩ := Option.bind_eq_some_iff.mp h
    obtain ⟨r, h3, rfl⟩ := Option.map_eq_some_iff.mp h2
    rw [List.map_cons, ← keyOf_eq h1, ← keysOf_eq h3]
/-- a key of a dict of that kind -/
def keyOk (t : Bool) (k : D) : Prop := if t = true then ∃ ds ks, k = .tup ds ∧ keysOf ds = some ks else ∃ q, keyOf k = some q
theorem keyD_inj {a b : Key} (h : keyD a = keyD b) : a = b := by
  cases a <;> cases b <;> cases h <;> rfl
theorem keyDs_inj : ∀ {a b : List Key}, a.map keyD = b.map keyD → a = b
  | [], [], _ => rfl
  | [], _ :: _, e => by simp at e
  | _ :: _, [], e => by simp at e
  | x :: xs, y :: ys, e => by
    rw [List.map_cons, List.map_cons] at e
    injection e with e1 e2
    rw [keyD_inj e1, keyDs_inj e2]
section
variable {K : PySem.W.Frag} {S : SO} {H : Hp}
theorem rel_key {k : Key} {v : V} (h : Rel K S H (keyD k) v) : v = kV k := by
  cases k with
  | inl i => exact h
  | inr x => exact h
theorem rels_key : ∀ {ks : List Key} {vs : List V}, Rels K S H (ks.map keyD) vs → vs = ks.map kV
  | [], _, h => h
  | k :: ks, _, h => by
    obtain ⟨v, r, rfl, h1, h2⟩ := h
    rw [rel_key h1, rels_key h2]
    rfl
def OptR (K : PySem.W.Frag) (S : SO) (H : Hp) : Option D → Option V → Prop
  | some d, some v => Rel K S H d v
  | none, none => True
  | _, _ => False
theorem RelK.get : ∀ {kvs : List (D × D)} {l : List (Key × V)} (q : Key), RelK K S H kvs l → OptR K S H (dget kvs (keyD q)) (valV l q)
  | [], l, q, h => by
    have e : l = [] := h
    subst e
    exact trivial
  | (k, d) :: kvs, l, q, h => by
    obtain ⟨q', v, r, rfl, rfl, h1, h2⟩ := h
    rw [dget_cons]
    by_cases e : q' = q
    · rw [if_pos (by rw [e]), valV_pos (p := (q', v)) e]
      exact h1
    · rw [if_neg (fun z => e (keyD_inj z)), valV_neg (p := (q', v)) e]
      exact RelK.get q h2
theorem RelT.get : ∀ {kvs : List (D × D)} {l : List (List Key × V)} (q : List Key), RelT K S H kvs l → OptR K S H (dget kvs (.tup (q.map keyD))) (valV l q)
  | [], l, q, h => by
    have e : l = [] := h
    subst e
    exact trivial
  | (k, d) :: kvs, l, q, h => by
    obtain ⟨q', v, r, rfl, rfl, h1, h2⟩ := h
    rw [dget_cons]
    by_cases e : q' = q
    · rw [if_pos (by rw [e]), valV_pos (p := (q', v)) e]
      exact h1
    · rw [if_neg (fun z => e (keyDs_inj (by injection z))), valV_neg (p := (q', v)) e]
      exact RelT.get q h2
theorem OptR.isSome {o : Option D} {u : Option V} (h : OptR K S H o u) : u.isSome = o.isSome := by
  cases o <;> cases u <;> first | rfl | exact h.elim
theorem RelK.length : ∀ {kvs : List (D × D)} {l : List (Key × V)}, RelK K S H kvs l → kvs.length = l.length
  | [], l, h => by
    have e : l = [] := h
    rw [e]
    rfl
  | (k, d) :: kvs, l, h => by
    obtain ⟨q', v, r, rfl, rfl, h1, h2⟩ := h
    rw [List.length_cons, List.length_cons, h2.length]
theorem RelT.length : ∀ {kvs : List (D × D)} {l : List (List Key × V)}, RelT K S H kvs l → kvs.length = l.length
  | [], l, h => by
    have e : l = [] := h
    rw [e]
    rfl
  | (k, d) :: kvs, l, h => by
    obtain ⟨q', v, r, rfl, rfl, h1, h2⟩ := h
    rw [List.length_cons, List.length_cons, h2.length]
theorem RelK.snoc {q : Key} {d : D} {v : V} (hr : Rel K S H d v) : ∀ {kvs : List (D × D)} {l : List (Key × V)}, RelK K S H kvs l → RelK K S H (kvs ++ [(keyD q, d)]) (l ++ [(q, v)])
  | [], l, h => by
    have e : l = [] := h
    subst e
    exact ⟨q, v, [], rfl, rfl, hr, rfl⟩
  | (k, d') :: kvs, l, h => by
    obtain ⟨q', v', r, rfl, rfl, h1, h2⟩ := h
    exact ⟨q', v', _, rfl, rfl, h1, h2.snoc hr⟩
theorem RelT.snoc {q : List Key} {d : D} {v : V} (hr : Rel K S H d v) : ∀ {kvs : List (D × D)} {l : List (List Key × V)}, RelT K S H kvs l → RelT K S H (kvs ++ [(.tup (q.map keyD), d)]) (l ++ [(q, v)])
  | [], l, h => by
    have e : l = [] := h
    subst e
    exact ⟨q, v, [], rfl, rfl, hr, rfl⟩
  | (k, d') :: kvs, l, h => by
    obtain ⟨q', v', r, rfl, rfl, h1, h2⟩ := h
    exact ⟨q', v', _, rfl, rfl, h1, h2.snoc hr⟩
open Classical in
theorem RelK.repl {q : Key} {d : D} {v : V} (hr : Rel K S H d v) : ∀ {kvs : List (D × D)} {l : List (Key × V)}, RelK K S H kvs l → RelK K S H (kvs.map fun p => if p.1 = keyD q then (p.1, d) else p) (l.map fun p => if p.1 = q then (p.1, v) else p)
  | [], l, h => by
    have e : l = [] := h
    subst e
    exact rfl
  | (k, d') :: kvs, l, h => by
    obtain ⟨q', v', r, rfl, rfl, h1, h2⟩ := h
    rw [List.map_cons, List.map_cons]
    by_cases e : q' = q
    · rw [if_pos (by rw [e]), if_pos e]
      exact ⟨q', v, _, rfl, rfl, hr, h2.repl hr⟩
    · rw [if_neg (fun z => e (keyD_inj z)), if_neg e]
      exact ⟨q', v', _, rfl, rfl, h1, h2.repl hr⟩
open Classical in
theorem RelT.repl {q : List Key} {d : D} {v : V} (hr : Rel K S H d v) : ∀ {kvs : List (D × D)} {l : List (List Key × V)}, RelT K S H kvs l → RelT K S H (kvs.map fun p => if p.1 = .tup (q.map keyD) then (p.1, d) else p) (l.map fun p => if p.1 = q then (p.1, v) else p)
  | [], l, h => by
    have e : l = [] := h
    subst e
    exact rfl
  | (k, d') :: kvs, l, h => by
    obtain ⟨q', v', r, rfl, rfl, h1, h2⟩ := h
    rw [List.map_cons, List.map_cons]
    by_cases e : q' = q
    · rw [if_pos (by rw [e]), if_pos e]
      exact ⟨q', v, _, rfl, rfl, hr, h2.repl hr⟩
    · rw [if_neg (fun z => e (keyDs_inj (by injection z))), if_neg e]
      exact ⟨q', v', _, rfl, rfl, h1, h2.repl hr⟩
theorem RelK.put {q : Key} {d : D} {v : V} {kvs : List (D × D)} {l : List (Key × V)} (h : RelK K S H kvs l) (hr : Rel K S H d v) : RelK K S H (dput kvs (keyD q) d) (putK l q v) := by
  have g := (h.get q).isSome
  unfold dput putK
  rw [valV_any, g]
  split
  · exact h.repl hr
  · exact h.snoc hr
theorem RelT.put {q : List Key} {d : D} {v : V} {kvs : List (D × D)} {l : List (List Key × V)} (h : RelT K S H kvs l) (hr : Rel K S H d v) : RelT K S H (dput kvs (.tup (q.map keyD)) d) (putK l q v) := by
  have g := (h.get q).isSome
  unfold dput putK
  rw [valV_any, g]
  split
  · exact h.repl hr
  · exact h.snoc hr
end
def objD : Option DO → Option (Bool × List (D × D))
  | some (.dic t kvs) => some (t, kvs)
  | _ => none
def dicX (S : SO) : D → Option (Bool × List (D × D))
  | .dic t kvs => some (t, kvs)
  | .fd false kvs => some (false, kvs)
  | .obj a => objD (S a)
  | _ => none
theorem objD_of {o : Option DO} {t : Bool} {kvs : List (D × D)} (h : objD o = some (t, kvs)) : o = some (.dic t kvs) := by
  cases o with
  | none => cases h
  | some u =>
    cases u with
    | dic t' kvs' =>
      cases h
      rfl
    | _ => cases h
def DicAt (K : PySem.W.Frag) (S : SO) (H : Hp) (a : Addr) (t : Bool) (kvs : List (D × D)) : Prop := (∃ l, t = false ∧ H a = some (.dK l) ∧ RelK K S H kvs l) ∨ (∃ l, t = true ∧ H a = some (.dT l) ∧ RelT K S H kvs l)
/-- .. to be read: locked or not -/
def DicRd (K : PySem.W.Frag) (S : SO) (H : Hp) (a : Addr) (t : Bool) (kvs : List (D × D)) : Prop := (∃ l, t = false ∧ Rd H a (.dK l) ∧ RelK K S H kvs l) ∨ (∃ l, t = true ∧ H a = some (.dT l) ∧ RelT K S H kvs l)
theorem DicAt.rd {K : PySem.W.Frag} {S : SO} {H : Hp} {a : Addr} {t : Bool} {kvs : List (D × D)} : DicAt K S H a t kvs → DicRd K S H a t kvs
  | .inl ⟨l, ht, h, r⟩ => .inl ⟨l, ht, .inl h, r⟩
  | .inr h => .inr h
theorem dicX_at {K : PySem.W.Frag} {S : SO} {H : Hp} {d : D} {v : V} {t : Bool} {kvs : List (D × D)} (s : SRel K S H) (r : Rel K S H d v) (e : dicX S d = some (t, kvs)) : ∃ a, v = .ref a ∧ DicRd K S H a t kvs := by
  cases d with
  | dic t' kvs' =>
    cases e
    obtain ⟨a, h1, _, h2⟩ := r
    exact ⟨a, h1, DicAt.rd h2⟩
  | fd t' kvs' =>
    cases t' with
    | true => cases e
    | false =>
      cases e
      obtain ⟨a, h1, _, ⟨o, l, _, h2, h3⟩ | ⟨o, l, z, _⟩⟩ := r
      · exact ⟨a, h1, .inl ⟨l, rfl, .inr ⟨o, h2⟩, h3⟩⟩
      · cases z
  | obj a => exact ⟨a, r, DicAt.rd (s a _ (objD_of e))⟩
  | _ => cases e
theorem DicRd.get {K : PySem.W.Frag} {S : SO} {H : Hp} {a : Addr} {t : Bool} {kvs : List (D × D)} {k : D} {y : V} (h : DicRd K S H a t kvs) (r : Rel K S H k y) (ok : keyOk t k) : ∃ o, DGet H a y o ∧ OptR K S H (dget kvs k) o := by
  rcases h with ⟨l, rfl, hl, rl⟩ | ⟨l, rfl, hl, rl⟩
  · obtain ⟨q, hq⟩ := ok
    have e := keyOf_eq hq
    subst e
    rw [rel_key r]
    exact ⟨_, .inl ⟨l, q, hl, rfl, rfl⟩, rl.get q⟩
  · obtain ⟨ds, ks, rfl, hk⟩ := ok
    have e := keysOf_eq hk
    subst e
    obtain ⟨b, vs, rfl, tb, rv⟩ := r
    have e2 := rels_key rv
    subst e2
    exact ⟨_, DGet.t hl tb.2, rl.get ks⟩
theorem DicAt.put {K : PySem.W.Frag} {S : SO} {H : Hp} {a : Addr} {t : Bool} {kvs : List (D × D)} {k d : D} {y v : V} (h : DicAt K S H a t kvs) (r : Rel K S H k y) (ok : keyOk t k) (rv : Rel K S H d v) (hz : kvs.length < 1000000) :
    ∃ o, DPut H a y v (upd H a o) ∧ (∀ S' H', Nx S H S' H' → H' a = some o → DicAt K S' H' a t (dput kvs k d)) := by
  rcases h with ⟨l, rfl, hl, rl⟩ | ⟨l, rfl, hl, rl⟩
  · obtain ⟨q, hq⟩ := ok
    have e := keyOf_eq hq
    subst e
    rw [rel_key r]
    exact ⟨_, DPut.k hl (by rw [← rl.length]; exact Nat.lt_of_lt_of_le hz (le_line (Nat.le_refl _))), fun S' H' n e => .inl ⟨_, rfl, e, RelK.nx n _ _ (rl.put rv)⟩⟩
  · obtain ⟨ds, ks, rfl, hk⟩ := ok
    have e := keysOf_eq hk
    subst e
    obtain ⟨b, vs, rfl, tb, rvs⟩ := r
    have e2 := rels_key rvs
    subst e2
    exact ⟨_, DPut.t hl tb.2 (by rw [← rl.length]; exact Nat.lt_of_lt_of_le hz (le_line (Nat.le_refl _))), fun S' H' n e => .inr ⟨_, rfl, e, RelT.nx n _ _ (rl.put rv)⟩⟩
end L2.DL

/-! DL8: in, subscripts, slices, len and other built-ins -/
namespace L2.DL
open PySem PySem.Spec PyProof.Rows

/-! ### in -/
def strIn (i j : Str) : Bool := !(Builtin.Str.occurrences j i 0 j.length 1).isEmpty
/-- x is equal to one of the items -/
def memD (S : SO) (x : D) (xs : List D) (k : Bool → Prop) : Prop := ∃ p ps, pyS S x = some p ∧ pyDs xs = some ps ∧ SeqAt.shaped p = true ∧ SeqAt.shaped (.list ps) = true ∧ k (ps.any fun z => PyData.eqv z p)
def inD (x y : D) (S : SO) (k : Bool → Prop) : Prop := match y with
  | .str j => (match x with
    | .str i => k (strIn i j)
    | _ => False)
  | y => (∃ xs, seqX S y = some xs ∧ memD S x xs k) ∨ (∃ t kvs, dicX S y = some (t, kvs) ∧ keyOk t x ∧ k (dget kvs x).isSome)
def oIn : WO := fun x y S Q => inD x y S fun b => Q (.bl b) S
def oNotIn : WO := fun x y S Q => inD x y S fun b => Q (.bl (!b)) S
theorem inD_cases {x y : D} {S : SO} {k : Bool → Prop} (h : inD x y S k) : (∃ i j, x = .str i ∧ y = .str j ∧ k (strIn i j)) ∨ (∃ xs, seqX S y = some xs ∧ memD S x xs k) ∨ (∃ t kvs, dicX S y = some (t, kvs) ∧ keyOk t x ∧ k (dget kvs x).isSome) := by
  cases y with
  | str j =>
    cases x with
    | str i => exact .inl ⟨i, j, rfl, rfl, h⟩
    | _ => exact False.elim h
  | _ => exact .inr h
theorem shaped_tup {ps : List PyData} (h : SeqAt.shaped (.list ps) = true) : PyData.canLayAll0 ps = true := by
  have := SeqAt.canLay_of_shaped h
  exact this
section
variable {X : Cx}
theorem seq_in {K : PySem.W.Frag} {S : SO} {H : Hp} {d : D} {v : V} {xs : List D} {ps : List PyData} (s : SRel K S H) (r : Rel K S H d v) (e : seqX S d = some xs) (hp : pyDs xs = some ps) : Dp K H v (.list ps) ∨ Dp K H v (.tuple ps) := by
  obtain ⟨a, vs, rfl, h, rv⟩ := seqX_at s r e
  exact h.elim (fun h => .inl (.lst h (rels_dp _ _ _ rv hp))) fun h => .inr (.tup h (rels_dp _ _ _ rv hp))
theorem do_in (hu : X.A.units + 65 < cLine) : DO2 X (compareOp .In) oIn := by
  intro pins s σ H x y v u Q I rx ry ⟨dx, dy, S, Q0, sr, r1, r2, q, an⟩
  rcases inD_cases q with ⟨i, j, rfl, rfl, q⟩ | ⟨xs, e, p, ps, hp, hps, sp, sps, q⟩ | ⟨t, kvs, e, ok, q⟩
  · exact op_in_str pins s σ H x y v u Q I rx ry ⟨i, j, r1, r2, ansd (.bl _) sr an q rfl⟩
  · have dp := relS_dp sr r1 hp
    rcases seq_in sr r2 e hps with dq | dq
    · exact op_inD hu pins s σ H x y v u Q I rx ry ⟨p, ps, dp, dq, sp, sps, ansd (.bl _) sr an q rfl⟩
    · obtain ⟨as, ra⟩ := Dp.reads I p x v dp rx
      obtain ⟨bs, rb⟩ := Dp.reads I (.tuple ps) y u dq ry
      exact SeqAt.in_tuple_reads rb ra (shaped_tup sps) (SeqAt.canLay_of_shaped sp) (room_in_shaped sp hu) ⟨.bl _, H, I, rfl, ansd (.bl _) sr an q rfl⟩
  · obtain ⟨a, rfl, da⟩ := dicX_at sr r2 e
    obtain ⟨o, g, oo⟩ := da.get r1 ok
    cases ry
    refine d_in (by omega) I g rx fun s' I' => ⟨.bl o.isSome, H, I', rfl, ?_⟩
    rw [oo.isSome]
    exact ansd (.bl _) sr an q rfl
theorem do_notIn (hu : X.A.units + 65 < cLine) : DO2 X (compareOp .NotIn) oNotIn := by
  intro pins s σ H x y v u Q I rx ry ⟨dx, dy, S, Q0, sr, r1, r2, q, an⟩
  rcases inD_cases q with ⟨i, j, rfl, rfl, q⟩ | ⟨xs, e, p, ps, hp, hps, sp, sps, q⟩ | ⟨t, kvs, e, ok, q⟩
  · exact op_notin_str pins s σ H x y v u Q I rx ry ⟨i, j, r1, r2, ansd (.bl _) sr an q rfl⟩
  · have dp := relS_dp sr r1 hp
    rcases seq_in sr r2 e hps with dq | dq
    · exact op_notInD hu pins s σ H x y v u Q I rx ry ⟨p, ps, dp, dq, sp, sps, ansd (.bl _) sr an q rfl⟩
    · obtain ⟨as, ra⟩ := Dp.reads I p x v dp rx
      obtain ⟨bs, rb⟩ := Dp.reads I (.tuple ps) y u dq ry
      exact SeqAt.notIn_tuple_reads rb ra (shaped_tup sps) (SeqAt.canLay_of_shaped sp) (room_in_shaped sp hu) ⟨.bl _, H, I, rfl, ansd (.bl _) sr an q rfl⟩
  · obtain ⟨a, rfl, da⟩ := dicX_at sr r2 e
    obtain ⟨o, g, oo⟩ := da.get r1 ok
    cases ry
    refine d_notIn (by omega) I g rx fun s' I' => ⟨.bl (!o.isSome), H, I', rfl, ?_⟩
    rw [oo.isSome]
    exact ansd (.bl _) sr an q rfl

/-! ### a[i] -/
def oIx : WO := fun x y S Q => (∃ xs i v, seqX S x = some xs ∧ y = .int i ∧ atI xs i = some v ∧ Q v S) ∨ (∃ z i c, x = .str z ∧ y = .int i ∧ z.length ≤ 1000000 ∧ atI z.cps.toList i = some c ∧ Q (.str ⟨#[c]⟩) S) ∨
  (∃ t kvs v, dicX S x = some (t, kvs) ∧ keyOk t y ∧ dget kvs y = some v ∧ Q v S)
theorem do_ix (hu : X.A.units + 65 < cLine) : IxR X (liftO X.K oIx) := by
  intro value slice pins s σ H x y v u Q I rx ry ⟨dx, dy, S, Q0, sr, r1, r2, q, an⟩ hs
  rcases q with ⟨xs, i, d, e, rfl, hi, q⟩ | ⟨z, i, c, rfl, rfl, hz, hi, q⟩ | ⟨t, kvs, d, e, ok, hd, q⟩
  · obtain ⟨a, vs, ex, hq, rv⟩ := seqX_at sr r1 e
    have e2 : y = .int i := r2
    unfold atI at hi
    obtain ⟨j, hj, hx⟩ := Option.bind_eq_some_iff.mp hi
    obtain ⟨w, hw, rw'⟩ := rv.get hx
    have hi2 : atI vs i = some w := by
      unfold atI
      rw [← rv.length, hj]
      exact hw
    have qw : Q w H := ansd d sr an q rw'
    rcases hq with hq | hq
    · exact ix_list value slice pins s σ H x y v u Q I rx ry ⟨a, vs, i, w, ex, e2, hq, hi2, qw⟩ hs
    · exact ix_tup value slice pins s σ H x y v u Q I rx ry ⟨a, vs, i, w, ex, e2, hq, hi2, qw⟩ hs
  · exact ix_str value slice pins s σ H x y v u Q I rx ry ⟨z, i, c, r1, r2, le_line hz, hi, ansd (.str _) sr an q rfl⟩ hs
  · obtain ⟨a, rfl, da⟩ := dicX_at sr r1 e
    obtain ⟨o, g, oo⟩ := da.get r2 ok
    rw [hd] at oo
    cases o with
    | none => exact oo.elim
    | some w =>
      cases rx
      exact tail_any (dict_typeIs I g) PySem.F.slot_dict_getitem.lookup (d_getItem (by omega) I g ry fun w' s' I' rw' => ⟨w, H, I', rw', ansd d sr an q oo⟩) hs
theorem de_ix {a b : Expr} {wa wb : WE} {pos : Pos} (hu : X.A.units + 65 < cLine) (ha : DE X a wa) (hb : DE X b wb) (hs : PlainIx b := by intro _ _; rfl) : DE X (.Subscript a b pos) (wO oIx wa wb) :=
  pe_imp (pe_ix (do_ix hu) ha hb hs) fun σ H Q h => two h fun v u H2 x y S2 Q0 s2 r1 r2 q2 an => ⟨x, y, S2, Q0, s2, r1, r2, q2, an⟩

/-! ### a[lo:hi] -/
abbrev WP := SD → SO → (Option Int → SO → Prop) → Prop
def liftP (K : PySem.W.Frag) (w : WP) : TO := fun σ H Q => ∃ sd S Q0, Sta K sd S σ H ∧ w sd S Q0 ∧ ∀ o S' H', Q0 o S' → Nx S H S' H' → SRel K S' H' → Q o H'
abbrev DP (X : Cx) (e : Option Expr) (w : WP) : Prop := PO X e (liftP X.K w)
theorem po_imp {e : Option Expr} {t t' : TO} (h : PO X e t) (i : ∀ σ H Q, t' σ H Q → t σ H Q) : PO X e t' := ⟨fun pins s σ H Q I q => h.run pins s σ H Q I (i σ H Q q)⟩
def pNone : WP := fun _ S Q => Q none S
def isI0 (k : Int → SO → Prop) : KD := fun d S => match d with
  | .int i => k i S
  | _ => False
structure IsI (k : Int → SO → Prop) (d : D) (S : SO) : Prop where
  ex : isI0 k d S
def isI (k : Int → SO → Prop) : KD := fun d S => IsI k d S
def pSome (we : WE) : WP := fun sd S Q => we sd S (isI fun i S1 => Q (some i) S1)
theorem dp_none : DP X none pNone := po_imp po_none fun σ H Q ⟨sd, S, Q0, st, q, an⟩ => an _ _ _ q (.refl _ _) st.s
theorem dp_some {e : Expr} {we : WE} (h : DE X e we) : DP X (some e) (pSome we) := po_imp (po_some h) fun σ H Q ⟨sd, S, Q0, st, q, an⟩ => ⟨sd, S, _, st, q, fun d S1 v H1 q1 n1 s1 r1 => by
  have q1 := q1.ex
  cases d with
  | int i => exact ⟨i, r1, an _ _ _ q1 n1 s1⟩
  | _ => exact False.elim q1⟩
def cutD (xs : List D) (lo hi : Option Int) : List D := (xs.drop (HT.sIx xs.length 0 lo)).take (HT.sIx xs.length xs.length hi - HT.sIx xs.length 0 lo)
theorem Rels.cut {K : PySem.W.Frag} {S : SO} {H : Hp} {xs : List D} {vs : List V} (r : Rels K S H xs vs) (lo hi : Option Int) : Rels K S H (cutD xs lo hi) (cutV vs lo hi) := by
  unfold cutD cutV
  rw [← r.length]
  exact (r.drop _).take _
/-- what the slice of it is -/
def sliD (d : D) (S : SO) (lo hi : Option Int) (Q : KD) : Prop := match d with
  | .str z => z.length ≤ 1000000 ∧ Q (.str (cutS z lo hi)) S
  | .tup xs => Q (.tup (cutD xs lo hi)) S
  | .kt xs => ¬ (HT.sIx xs.length 0 lo = 0 ∧ HT.sIx xs.length xs.length hi = xs.length) ∧ Q (.tup (cutD xs lo hi)) S
  | .tf xs => ¬ (HT.sIx xs.length 0 lo = 0 ∧ HT.sIx xs.length xs.length hi = xs.length) ∧ Q (.tup (cutD xs lo hi)) S
  | .src xs => Q (.lst (cutD xs lo hi)) S
  | d => ∃ xs, lstD S d = some xs ∧ Q (.lst (cutD xs lo hi)) S
def wSl (we : WE) (tl th : WP) : WE := fun sd S Q => we sd S fun d S1 => tl sd S1 fun lo S2 => th sd S2 fun hi S3 => sliD d S3 lo hi Q
theorem cutD_all {xs : List D} {lo hi : Option Int} (h : HT.sIx xs.length 0 lo = 0 ∧ HT.sIx xs.length xs.length hi = xs.length) : cutD xs lo hi = xs := by
  unfold cutD
  rw [h.1, h.2]
  simp
theorem sl_d : SlR X (fun x lo hi H Q => ∃ d S Q0, SRel X.K S H ∧ Rel X.K S H d x ∧ sliD d S lo hi Q0 ∧ Ans X.K S H Q0 Q) := by
  intro pins s σ H x v vl vu lo hi sl Q I rx hs pl pu ⟨d, S, Q0, sr, r, q, an⟩
  have lists : ∀ {a : Addr} {vs : List V} {xs : List D}, x = .ref a → SqL X.K H a vs → Rels X.K S H xs vs → Q0 (.lst (cutD xs lo hi)) S → ∃ T id, typeLookup (.type T) "__getitem__" = pure (some (.builtin id)) ∧ s.TypeIs v T ∧ wpAny (model X.prog X.w) X.A (getItem v (.ref sl)) (EP X pins σ Q) X.xe s := fun e hq rv q =>
    sl_list pins s σ H x v vl vu lo hi sl Q I rx hs pl pu ⟨_, _, e, hq, fun p hp => an _ _ _ _ q (nx_new hp) (sr.new hp) ⟨p, _, rfl, sr.free hp, upd_same, (rv.cut lo hi).nx (nx_new hp)⟩⟩
  have via : ∀ {d : D} {xs : List D}, Rel X.K S H d x → lstD S d = some xs → Q0 (.lst (cutD xs lo hi)) S → ∃ T id, typeLookup (.type T) "__getitem__" = pure (some (.builtin id)) ∧ s.TypeIs v T ∧ wpAny (model X.prog X.w) X.A (getItem v (.ref sl)) (EP X pins σ Q) X.xe s := fun r e q =>
    let ⟨a, vs, h1, h2, h3⟩ := lstD_at sr r e
    lists h1 (.of h2) h3 q
  cases d with
  | str z => exact sl_str pins s σ H x v vl vu lo hi sl Q I rx hs pl pu ⟨z, r, le_line q.1, ansd (.str _) sr an q.2 rfl⟩
  | tup xs =>
    obtain ⟨a, vs, e, t, rv⟩ := r
    refine sl_tupA pins s σ H x v vl vu lo hi sl Q I rx hs pl pu ⟨a, vs, e, t.sq, fun hw => ?_, fun _ p hp => an _ _ _ _ q (nx_new hp) (sr.new hp) ⟨p, _, rfl, ⟨sr.free hp, upd_same⟩, (rv.cut lo hi).nx (nx_new hp)⟩⟩
    rw [← rv.length] at hw
    have q' : Q0 (.tup (cutD xs lo hi)) S := q
    rw [cutD_all hw] at q'
    exact ansd (.tup xs) sr an q' ⟨a, vs, rfl, t, rv⟩
  | kt xs =>
    obtain ⟨a, vs, e, t, rv⟩ := r
    refine sl_tupA pins s σ H x v vl vu lo hi sl Q I rx hs pl pu ⟨a, vs, e, t.sq, fun hw => absurd (by rw [rv.length]; exact hw) q.1, fun _ p hp => an _ _ _ _ q.2 (nx_new hp) (sr.new hp) ⟨p, _, rfl, ⟨sr.free hp, upd_same⟩, (rv.cut lo hi).nx (nx_new hp)⟩⟩
  | tf xs =>
    obtain ⟨a, vs, e, t, rv⟩ := r
    refine sl_tupA pins s σ H x v vl vu lo hi sl Q I rx hs pl pu ⟨a, vs, e, t.sq, fun hw => absurd (by rw [rv.length]; exact hw) q.1, fun _ p hp => an _ _ _ _ q.2 (nx_new hp) (sr.new hp) ⟨p, _, rfl, ⟨sr.free hp, upd_same⟩, (rv.cut lo hi).nx (nx_new hp)⟩⟩
  | src xs =>
    obtain ⟨a, vs, e, t, rv⟩ := r
    exact lists e t.sq rv q
  | lst xs => exact let ⟨ys, e, q⟩ := q; via r e q
  | obj a => exact let ⟨ys, e, q⟩ := q; via r e q
  | _ => exact let ⟨_, e, _⟩ := q; nomatch e
theorem de_sl {a : Expr} {lo hi : Option Expr} {we : WE} {tl th : WP} {pos p2 : Pos} (ha : DE X a we) (hl : DP X lo tl) (hh : DP X hi th) : DE X (.Subscript a (.Slice lo hi none p2) pos) (wSl we tl th) :=
  pe_imp (pe_slice sl_d ha hl hh) fun σ H Q ⟨sd, S, Q0, st, q, an⟩ => ⟨sd, S, _, st, q, fun d S1 v H1 q1 n1 s1 r1 => ⟨sd, S1, _, st.nx n1 s1, q1, fun o S2 H2 q2 n2 s2 => ⟨sd, S2, _, (st.nx n1 s1).nx n2 s2, q2, fun o3 S3 H3 q3 n3 s3 =>
    ⟨d, S3, Q0, s3, (Rel.nx (n2.trans n3) _ _ r1), q3, an.nx (n1.trans (n2.trans n3))⟩⟩⟩⟩
end
end L2.DL

/-! DL9: built-ins by values, methods, stores -/
namespace L2.DL
open PySem PySem.Spec PyProof.Rows

section
variable {K : PySem.W.Frag} {S : SO} {H : Hp}
theorem rels_ints : ∀ {ns : List Int} {vs : List V}, Rels K S H (ns.map D.int) vs → vs = ns.map V.int
  | [], _, h => h
  | k :: ks, _, h => by
    obtain ⟨v, r, rfl, h1, h2⟩ := h
    have e : v = .int k := h1
    rw [e, rels_ints h2]
    rfl
theorem rels_strs : ∀ {ns : List Str} {vs : List V}, Rels K S H (ns.map D.str) vs → vs = ns.map V.str
  | [], _, h => h
  | k :: ks, _, h => by
    obtain ⟨v, r, rfl, h1, h2⟩ := h
    have e : v = .str k := h1
    rw [e, rels_strs h2]
    rfl
theorem rels_bls : ∀ {ns : List Bool} {vs : List V}, Rels K S H (ns.map D.bl) vs → vs = ns.map V.bl
  | [], _, h => h
  | k :: ks, _, h => by
    obtain ⟨v, r, rfl, h1, h2⟩ := h
    have e : v = .bl k := h1
    rw [e, rels_bls h2]
    rfl
theorem rels_of_ints : ∀ (ns : List Int), Rels K S H (ns.map D.int) (ns.map V.int)
  | [] => rfl
  | k :: ks => ⟨_, _, rfl, rfl, rels_of_ints ks⟩
theorem rels_of_strs : ∀ (ns : List Str), Rels K S H (ns.map D.str) (ns.map V.str)
  | [] => rfl
  | k :: ks => ⟨_, _, rfl, rfl, rels_of_strs ks⟩
end
/-- the items of a list that is read -/
def lstX (S : SO) : D → Option (List D)
  | .src xs => some xs
  | d => lstD S d
theorem lstX_at {K : PySem.W.Frag} {S : SO} {H : Hp} {d : D} {v : V} {xs : List D} (s : SRel K S H) (r : Rel K S H d v) (e : lstX S d = some xs) : ∃ a vs, v = .ref a ∧ SqL K H a vs ∧ Rels K S H xs vs := by
  cases d with
  | src ys =>
    cases e
    obtain ⟨a, vs, h1, h2, h3⟩ := r
    exact ⟨a, vs, h1, h2.sq, h3⟩
  | lst ys =>
    obtain ⟨a, vs, h1, h2, h3⟩ := lstD_at s r e
    exact ⟨a, vs, h1, .of h2, h3⟩
  | obj ys =>
    obtain ⟨a, vs, h1, h2, h3⟩ := lstD_at s r e
    exact ⟨a, vs, h1, .of h2, h3⟩
  | _ => cases e
/-- one argument; two -/
def one (xs : List D) (k : D → Prop) : Prop := match xs with
  | [x] => k x
  | _ => False
def two2 (xs : List D) (k : D → D → Prop) : Prop := match xs with
  | [x, y] => k x y
  | _ => False
theorem one_of {xs : List D} {k : D → Prop} (h : one xs k) : ∃ j, xs = [j] ∧ k j := by
  unfold one at h
  split at h
  · exact ⟨_, rfl, h⟩
  · exact h.elim
theorem two2_of {xs : List D} {k : D → D → Prop} (h : two2 xs k) : ∃ i j, xs = [i, j] ∧ k i j := by
  unfold two2 at h
  split at h
  · exact ⟨_, _, rfl, h⟩
  · exact h.elim
theorem Rels.v1 {K : PySem.W.Frag} {S : SO} {H : Hp} {d : D} {vs : List V} (r : Rels K S H [d] vs) : ∃ v, vs = [v] ∧ Rel K S H d v := by
  obtain ⟨v, r', rfl, rv, e⟩ := r
  have e' : r' = [] := e
  exact ⟨v, by rw [e'], rv⟩
section
variable {X : Cx}
/-! ### numbers -/
def cInt : WL := fun xs S Q => one xs fun x => match x with
  | .int i => Q (.int i) S
  | .bl b => Q (.int (if b then 1 else 0)) S
  | _ => False
theorem dc_int : DC X (.type "int") cInt := by
  intro pins s σ H xs us Q I r ⟨ds, S, Q0, sr, rs, q, an⟩
  obtain ⟨x, rfl, q⟩ := one_of q
  obtain ⟨v, rfl, rv⟩ := rs.v1
  cases x with
  | int i =>
    have e : v = .int i := rv
    exact call_int1 pins s σ H _ us Q I r (.inl ⟨i, by rw [e], ansd (.int i) sr an q rfl⟩)
  | bl i =>
    have e : v = .bl i := rv
    exact call_int1 pins s σ H _ us Q I r (.inr ⟨i, by rw [e], ansd (.int _) sr an q rfl⟩)
  | _ => exact False.elim q
def cAbs : WL := fun xs S Q => int1 xs fun i => Q (.int (if i < 0 then -i else i)) S
theorem dc_abs : DC X (.builtin "abs") cAbs := by
  intro pins s σ H xs us Q I r ⟨ds, S, Q0, sr, rs, q, an⟩
  obtain ⟨i, rfl, q⟩ := int1_of q
  rw [rs.int1] at r
  exact call_abs pins s σ H _ us Q I r ⟨i, rfl, ansd (.int _) sr an q rfl⟩
/-- max(a, b) of ints, max(list of ints) -/
def intsX (S : SO) (xs : List D) (k : List Int → Prop) : Prop := one xs fun x => ∃ ns : List Int, lstX S x = some (ns.map D.int) ∧ k ns
def IsMax (ns : List Int) (m : Int) : Prop := m ∈ ns ∧ ∀ y ∈ ns, y ≤ m
def IsMin (ns : List Int) (m : Int) : Prop := m ∈ ns ∧ ∀ y ∈ ns, m ≤ y
def cMax : WL := fun xs S Q => int2 xs (fun i j => Q (.int (max i j)) S) ∨ intsX S xs fun ns => ns ≠ [] ∧ ∀ m, IsMax ns m → Q (.int m) S
def cMin : WL := fun xs S Q => int2 xs (fun i j => Q (.int (min i j)) S) ∨ intsX S xs fun ns => ns ≠ [] ∧ ∀ m, IsMin ns m → Q (.int m) S
theorem dc_max (hc : X.calm = true) : DC X (.builtin "max") cMax := by
  intro pins s σ H xs us Q I r ⟨ds, S, Q0, sr, rs, q, an⟩
  rcases q with q | q
  · obtain ⟨i, j, rfl, q⟩ := int2_of q
    rw [rs.int2] at r
    refine call_max2 hc pins s σ H _ us Q I r ⟨i, j, rfl, ?_⟩
    have e : (if j > i then j else i) = max i j := by omega
    rw [e]
    exact ansd (.int _) sr an q rfl
  · obtain ⟨x, rfl, ns, e, hne, q⟩ := one_of q
    obtain ⟨v, rfl, rv⟩ := rs.v1
    obtain ⟨a, vs, rfl, hq, rns⟩ := lstX_at sr rv e
    rw [rels_ints rns] at hq
    exact cr_max hc pins s σ H _ us Q I r ⟨a, ns, rfl, hq, List.length_pos_iff.mpr hne, fun m h1 h2 => ansd (.int m) sr an (q m ⟨h1, h2⟩) rfl⟩
theorem dc_min (hc : X.calm = true) : DC X (.builtin "min") cMin := by
  intro pins s σ H xs us Q I r ⟨ds, S, Q0, sr, rs, q, an⟩
  rcases q with q | q
  · obtain ⟨i, j, rfl, q⟩ := int2_of q
    rw [rs.int2] at r
    refine call_min2 hc pins s σ H _ us Q I r ⟨i, j, rfl, ?_⟩
    have e : (if j < i then j else i) = min i j := by omega
    rw [e]
    exact ansd (.int _) sr an q rfl
  · obtain ⟨x, rfl, ns, e, hne, q⟩ := one_of q
    obtain ⟨v, rfl, rv⟩ := rs.v1
    obtain ⟨a, vs, rfl, hq, rns⟩ := lstX_at sr rv e
    rw [rels_ints rns] at hq
    exact cr_min hc pins s σ H _ us Q I r ⟨a, ns, rfl, hq, List.length_pos_iff.mpr hne, fun m h1 h2 => ansd (.int m) sr an (q m ⟨h1, h2⟩) rfl⟩
def blsX (S : SO) (xs : List D) (k : List Bool → Prop) : Prop := one xs fun x => ∃ ns : List Bool, lstX S x = some (ns.map D.bl) ∧ k ns
def cAll : WL := fun xs S Q => blsX S xs fun ns => Q (.bl (ns.all id)) S
def cAny : WL := fun xs S Q => blsX S xs fun ns => Q (.bl (ns.any id)) S
theorem dc_all (hc : X.calm = true) : DC X (.builtin "all") cAll := by
  intro pins s σ H xs us Q I r ⟨ds, S, Q0, sr, rs, q, an⟩
  obtain ⟨x, rfl, ns, e, q⟩ := one_of q
  obtain ⟨v, rfl, rv⟩ := rs.v1
  obtain ⟨a, vs, rfl, hq, rns⟩ := lstX_at sr rv e
  rw [rels_bls rns] at hq
  exact cr_all hc pins s σ H _ us Q I r ⟨a, ns, rfl, hq, ansd (.bl _) sr an q rfl⟩
def cDivmod : WL := fun xs S Q => int2 xs fun i j => CDiv i j ∧ Q (.tup [.int (i / j), .int (i % j)]) S
theorem dc_divmod : DC X (.builtin "divmod") cDivmod := by
  intro pins s σ H xs us Q I r ⟨ds, S, Q0, sr, rs, q, an⟩
  obtain ⟨i, j, rfl, hc, q⟩ := int2_of q
  rw [rs.int2] at r
  refine call_divmod pins s σ H _ us Q I r ⟨i, j, rfl, hc, fun p hp => ?_⟩
  exact an _ _ _ _ q (nx_new hp) (sr.new hp) ⟨p, _, rfl, ⟨sr.free hp, upd_same⟩, .int (i / j), [.int (i % j)], rfl, rfl, .int (i % j), [], rfl, rfl, rfl⟩
/-! ### len, list, tuple -/
def lenD0 (S : SO) (d : D) (k : Nat → Prop) : Prop := match d with
  | .str z => z.length ≤ 1000000 ∧ k z.length
  | d => (∃ xs, seqX S d = some xs ∧ k xs.length) ∨ ∃ t kvs, dicX S d = some (t, kvs) ∧ k kvs.length
structure LenD (S : SO) (d : D) (k : Nat → Prop) : Prop where
  ex : lenD0 S d k
abbrev lenD (S : SO) (d : D) (k : Nat → Prop) : Prop := LenD S d k
theorem len_seq {S : SO} {d : D} {k : Nat → Prop} {xs : List D} (e : seqX S d = some xs) (h : k xs.length) : lenD S d k := by
  refine ⟨?_⟩
  cases d with
  | str z => cases e
  | _ => exact .inl ⟨xs, e, h⟩
theorem lenD_cases {S : SO} {d : D} {k : Nat → Prop} (h' : lenD S d k) : (∃ z, d = .str z ∧ z.length ≤ 1000000 ∧ k z.length) ∨ (∃ xs, seqX S d = some xs ∧ k xs.length) ∨ ∃ t kvs, dicX S d = some (t, kvs) ∧ k kvs.length := by
  have h := h'.ex
  cases d with
  | str z => exact .inl ⟨z, rfl, h⟩
  | _ => exact .inr h
def cLen : WL := fun xs S Q => one xs fun x => lenD S x fun n => Q (.int n) S
theorem dc_len : DC X (.builtin "len") cLen := by
  intro pins s σ H xs us Q I r ⟨ds, S, Q0, sr, rs, q, an⟩
  obtain ⟨x, rfl, q2⟩ := one_of q
  obtain ⟨v, rfl, rv⟩ := rs.v1
  rcases lenD_cases q2 with ⟨z, rfl, hz, q⟩ | ⟨ys, e, q⟩ | ⟨t, kvs, e, q⟩
  · have e : v = .str z := rv
    exact call_len pins s σ H _ us Q I r ⟨v, z.length, rfl, by rw [e]; exact ⟨le_line hz, rfl⟩, ansd (.int _) sr an q rfl⟩
  · obtain ⟨a, vs, rfl, hq, rns⟩ := seqX_at sr rv e
    exact call_len pins s σ H _ us Q I r ⟨.ref a, ys.length, rfl, hq.elim (fun h => .inl ⟨vs, h, rns.length⟩) fun h => .inr ⟨vs, h, rns.length⟩, ansd (.int _) sr an q rfl⟩
  · obtain ⟨a, rfl, da⟩ := dicX_at sr rv e
    rcases da with ⟨l, rfl, hl, rl⟩ | ⟨l, rfl, hl, rl⟩
    · obtain ⟨u, rfl, ru⟩ := vals1 r
      cases ru
      refine d_len I hl fun t s' I' => ⟨.int l.length, H, I', ⟨t, rfl⟩, ?_⟩
      rw [← rl.length]
      exact ansd (.int _) sr an q rfl
    · refine call_len_dT pins s σ H _ us Q I r ⟨a, l, rfl, hl, ?_⟩
      rw [← rl.length]
      exact ansd (.int _) sr an q rfl
def cList : WL := fun xs S Q => one xs fun x => ∃ ys, seqX S x = some ys ∧ Q (.lst ys) S
def cListO : WL := fun xs S Q => one xs fun x => ∃ ys, seqX S x = some ys ∧ ∀ p, S p = none → Q (.obj p) (S.set p (.lst ys))
theorem dc_list : DC X (.type "list") cList := by
  intro pins s σ H xs us Q I r ⟨ds, S, Q0, sr, rs, q, an⟩
  obtain ⟨x, rfl, ys, e, q⟩ := one_of q
  obtain ⟨v, rfl, rv⟩ := rs.v1
  obtain ⟨a, vs, rfl, hq, rns⟩ := seqX_at sr rv e
  exact call_list_of pins s σ H _ us Q I r ⟨a, vs, rfl, hq, fun p hp => an _ _ _ _ q (nx_new hp) (sr.new hp) ⟨p, _, rfl, sr.free hp, upd_same, rns.nx (nx_new hp)⟩⟩
theorem dc_listO : DC X (.type "list") cListO := by
  intro pins s σ H xs us Q I r ⟨ds, S, Q0, sr, rs, q, an⟩
  obtain ⟨x, rfl, ys, e, q⟩ := one_of q
  obtain ⟨v, rfl, rv⟩ := rs.v1
  obtain ⟨a, vs, rfl, hq, rns⟩ := seqX_at sr rv e
  refine call_list_of pins s σ H _ us Q I r ⟨a, vs, rfl, hq, fun p hp => ?_⟩
  have n2 : Nx S H (S.set p (.lst ys)) (upd H p (.lst vs)) := nx_obj hp (sr.free hp)
  exact an _ _ _ _ (q p (sr.free hp)) n2 (srel_put sr n2 ⟨vs, upd_same, rns.nx n2⟩) rfl
/-- tuple(of a list), of a tuple -/
def cTuple : WL := fun xs S Q => one xs fun x => match x with
  | .tup ys => Q (.tup ys) S
  | x => ∃ ys, lstX S x = some ys ∧ Q (.tup ys) S
theorem dc_tuple : DC X (.type "tuple") cTuple := by
  intro pins s σ H xs us Q I r ⟨ds, S, Q0, sr, rs, q, an⟩
  obtain ⟨x, rfl, q⟩ := one_of q
  obtain ⟨v, rfl, rv⟩ := rs.v1
  have via : (∃ ys, lstX S x = some ys ∧ Q0 (.tup ys) S) → wpAny (model X.prog X.w) X.A (call (.type "tuple") us) (EP X pins σ Q) X.xe s := fun ⟨ys, e, q⟩ => by
    obtain ⟨a, vs, rfl, hq, rns⟩ := lstX_at sr rv e
    exact call_tuple_of pins s σ H _ us Q I r ⟨a, vs, rfl, .inl ⟨hq, fun p hp => an _ _ _ _ q (nx_new hp) (sr.new hp) ⟨p, _, rfl, ⟨sr.free hp, upd_same⟩, rns.nx (nx_new hp)⟩⟩⟩
  cases x with
  | tup ys =>
    obtain ⟨a, vs, rfl, t, rns⟩ := rv
    exact call_tuple_of pins s σ H _ us Q I r ⟨a, vs, rfl, .inr ⟨t.sq, ansd (.tup ys) sr an q ⟨a, vs, rfl, t, rns⟩⟩⟩
  | _ => exact via q

/-! ### methods -/
abbrev WM := D → List D → SO → KD → Prop
abbrev DM (X : Cx) (id : String) (w : WM) : Prop := MtR X id (liftM X.K w)
def tyD (T : String) (d : D) (S : SO) : Prop := match d with
  | .str _ => T = "str"
  | .int _ => T = "int"
  | .src _ => T = "list"
  | .dic _ _ => T = "dict"
  | .lst _ => T = "list"
  | .obj a => (T = "list" ∧ ∃ xs, S a = some (.lst xs)) ∨ (T = "dict" ∧ ∃ t kvs, S a = some (.dic t kvs))
  | _ => False
theorem tyD_at {T : String} {d : D} {S : SO} {K : PySem.W.Frag} {H : Hp} {v : V} (h : tyD T d S) (s : SRel K S H) (r : Rel K S H d v) : tyV K T v H := by
  have dc : ∀ {a : Addr} {t : Bool} {kvs : List (D × D)}, DicAt K S H a t kvs → tyV K "dict" (.ref a) H := fun h => by
    rcases h with ⟨l, _, hl, _⟩ | ⟨l, _, hl, _⟩
    · exact .inr (.inr (.inl ⟨rfl, .inl ⟨l, hl⟩⟩))
    · exact .inr (.inr (.inl ⟨rfl, .inr ⟨l, hl⟩⟩))
  cases d with
  | str z =>
    have e : v = .str z := r
    have h' : T = "str" := h
    rw [e, h']
    exact rfl
  | int z =>
    have e : v = .int z := r
    have h' : T = "int" := h
    rw [e, h']
    exact rfl
  | src xs =>
    have h' : T = "list" := h
    obtain ⟨a, vs, rfl, t, _⟩ := r
    exact .inl ⟨h', vs, t.sq⟩
  | lst xs =>
    have h' : T = "list" := h
    obtain ⟨a, vs, rfl, _, t, _⟩ := r
    exact .inl ⟨h', vs, .of t⟩
  | dic t kvs =>
    have h' : T = "dict" := h
    obtain ⟨a, rfl, _, da⟩ := r
    rw [h']
    exact dc da
  | obj a =>
    have e : v = .ref a := r
    rw [e]
    rcases h with ⟨h', xs, hx⟩ | ⟨h', t, kvs, hx⟩
    · obtain ⟨vs, hv, _⟩ := s a _ hx
      exact .inl ⟨h', vs, .of hv⟩
    · rw [h']
      exact dc (s a _ hx)
  | _ => exact False.elim h
def wBM (T : String) (w : WM) (wo : WE) (t : WA) : WE := fun sd S Q => wo sd S fun d S1 => tyD T d S1 ∧ t sd S1 fun xs S2 => w d xs S2 Q
section
variable {o e : Expr} {es : List Expr} {wo : WE} {t : WA} {name : Str} {apos cpos : Pos} {T id : String} {w : WM}
theorem bm_lift {σ : St} {H : Hp} {Q : VK} (h : lift X.K (wBM T w wo t) σ H Q) : tBM X.K T (liftM X.K w) (lift X.K wo) (liftA X.K t) σ H Q := by
  obtain ⟨sd, S, Q0, st, q, an⟩ := h
  exact ⟨sd, S, _, st, q, fun d S1 v H1 ⟨ty, q1⟩ n1 s1 r1 => ⟨tyD_at ty s1 r1, sd, S1, _, st.nx n1 s1, q1, fun xs S2 vs H2 q2 n2 s2 r2 => ⟨d, xs, S2, Q0, s2, Rel.nx n2 _ _ r1, r2, q2, an.nx (n1.trans n2)⟩⟩⟩
theorem de_bm (hm : DM X id w) (pa : PlainAttrs T) (slot : Slot T name id) (hty : typeOf (.builtin id) = pure (.type "method_descriptor")) (ho : DE X o wo) (ha : DA X (e :: es) t)
    (hbase : attributeBase o name X.env (eval o X.env) = eval o X.env := by rfl)
    (hfew : ((backTo cpos (starEach (e :: es) X.env)).all (fun x => !x.1) && (backToKw cpos (keywordEach [] X.env)).all (fun x => x.1.isSome)
      && decide ((e :: es).length + ([] : List Keyword).length + (if ([] : List Keyword).isEmpty then 0 else 1) < 30)) = true := by rfl)
    (hline : (apos.endLine == cpos.line) = true := by rfl) (hs : starEach (e :: es) X.env = (false, eval e X.env) :: starEach es X.env := by rfl) (hplain : (backTo cpos (starEach es X.env)).any (·.1) = false := by rfl) :
    DE X (.Call (.Attribute o name apos) (e :: es) [] cpos) (wBM T w wo t) := pe_imp (pe_bm pa slot hty hm ho ha hbase hfew hline hs hplain) fun σ H Q h => bm_lift h
end
def mAppend : WM := fun d xs S Q => one xs fun y => ∃ a ys, d = .obj a ∧ S a = some (.lst ys) ∧ ys.length < 1000000 ∧ Q .non (S.set a (.lst (ys ++ [y])))
theorem dm_append : DM X "list.append" mAppend := by
  intro pins s σ H x xs v us Q I rx rs ⟨d, ys, S, Q0, sr, r1, r2, q, an⟩
  obtain ⟨y, rfl, a, zs, rfl, hS, hl, q⟩ := one_of q
  have r1' : x = .ref a := r1
  obtain ⟨u, rfl, ru⟩ := r2.v1
  obtain ⟨vs, hv, rv⟩ := sr a _ hS
  have n2 : Nx S H (S.set a (.lst (zs ++ [y]))) (upd H a (.lst (vs ++ [u]))) := nx_put hS
  refine mt_append pins s σ H x _ v us Q I rx rs ⟨a, vs, u, r1', rfl, hv, by rw [← rv.length]; exact Nat.lt_of_lt_of_le hl (le_line (Nat.le_refl _)), ?_⟩
  exact an _ _ _ _ q n2 (srel_put sr n2 ⟨_, upd_same, (rv.app (.one ru)).nx n2⟩) rfl
/-! ### stores -/
abbrev WSet := D → D → D → SO → (SO → Prop) → Prop
def liftSet (K : PySem.W.Frag) (w : WSet) : TSet := fun o i v H Q => ∃ d k x S Q0, SRel K S H ∧ Rel K S H d o ∧ Rel K S H k i ∧ Rel K S H x v ∧ w d k x S Q0 ∧ ∀ S' H', Q0 S' → Nx S H S' H' → SRel K S' H' → Q H'
/-- l[i] = v, d[k] = v -/
def sSub : WSet := fun d k x S Q => ∃ a, d = .obj a ∧ ((∃ xs i j, S a = some (.lst xs) ∧ k = .int i ∧ ixN xs.length i = some j ∧ Q (S.set a (.lst (xs.set j x)))) ∨ (∃ t kvs, S a = some (.dic t kvs) ∧ keyOk t k ∧ kvs.length < 1000000 ∧ Q (S.set a (.dic t (dput kvs k x)))))
theorem Rels.set {K : PySem.W.Frag} {S : SO} {H : Hp} {d : D} {v : V} (hr : Rel K S H d v) : ∀ {ds : List D} {vs : List V} (j : Nat), Rels K S H ds vs → Rels K S H (ds.set j d) (vs.set j v)
  | [], _, j, h => by
    have e : _ = [] := h
    rw [e]
    exact rfl
  | d' :: ds, _, 0, h => by
    obtain ⟨u, r, rfl, h1, h2⟩ := h
    exact ⟨v, r, rfl, hr, h2⟩
  | d' :: ds, _, j + 1, h => by
    obtain ⟨u, r, rfl, h1, h2⟩ := h
    exact ⟨u, _, rfl, h1, h2.set hr j⟩
theorem pset_sub (hu : X.A.units + 65 < cLine) : PSet X (liftSet X.K sSub) := by
  intro pins s σ H o i v ov iv u Q I ro ri rv ⟨d, k, x, S, Q0, sr, r1, r2, r3, q, an⟩
  obtain ⟨a, rfl, q⟩ := q
  rcases q with ⟨xs, i', j, hS, rfl, hj, q⟩ | ⟨t, kvs, hS, ok, hl, q⟩
  · obtain ⟨vs, hv, rvs⟩ := sr a _ hS
    have n2 : Nx S H (S.set a (.lst (xs.set j x))) (upd H a (.lst (vs.set j v))) := nx_put hS
    exact set_list pins s σ H o i v ov iv u Q I ro ri rv ⟨a, vs, i', j, r1, r2, hv, by rw [← rvs.length]; exact hj, an _ _ q n2 (srel_put sr n2 ⟨_, upd_same, (rvs.set r3 j).nx n2⟩)⟩
  · have da : DicAt X.K S H a t kvs := sr a _ hS
    obtain ⟨ob, g, hd⟩ := da.put r2 ok r3 hl
    have n2 : Nx S H (S.set a (.dic t (dput kvs k x))) (upd H a ob) := nx_put hS
    exact set_dict (by omega) pins s σ H o i v ov iv u Q I ro ri rv ⟨a, _, r1, g, an _ _ q n2 (srel_put sr n2 (hd _ _ n2 upd_same))⟩
/-- o[i] as a target -/
def gSubD (wo wi : WE) (w : WSet) : WG := fun v sd S Q => wo sd S fun d S1 => wi sd S1 fun k S2 => w d k v S2 fun S3 => Q sd S3
theorem dg_sub {o i : Expr} {wo wi : WE} {w : WSet} {pos : Pos} (hw : PSet X (liftSet X.K w)) (ho : DE X o wo) (hi : DE X i wi)
    (ha : ∀ v, assign (.Subscript o i pos) X.env v = (do
      let ov ← holding [v] (eval o X.env)
      let iv ← holding [v, ov] (eval i X.env)
      standAt pos
      holding [v, ov, iv] (setItem ov iv v)
      release [v, ov, iv] []) := by intro _; rfl) : DG X (.Subscript o i pos) (gSubD wo wi w) :=
  pg_imp (pg_sub ho hi hw ha) fun v σ H Q ⟨x, sd, S, Q0, st, r, q, an⟩ => ⟨sd, S, _, st, q, fun d S1 u H1 q1 n1 s1 r1 => ⟨sd, S1, _, st.nx n1 s1, q1, fun k S2 w' H2 q2 n2 s2 r2 =>
    ⟨d, k, x, S2, _, s2, Rel.nx n2 _ _ r1, r2, Rel.nx (n1.trans n2) _ _ r, q2, fun S3 H3 q3 n3 s3 => an _ _ _ _ q3 (n1.trans (n2.trans n3)) (st.nx (n1.trans (n2.trans n3)) s3)⟩⟩⟩
theorem ds_sub {o i value : Expr} {we wo wi : WE} {pos pos' : Pos} (hu : X.A.units + 65 < cLine) (ho : DE X o wo) (hi : DE X i wi) (hv : DE X value we) (hs : swapsWithSole [.Subscript o i pos'] value pos.line X.env = pure false := by rfl) (hw : swappedStores [.Subscript o i pos'] value X.env = pure none := by rfl)
    (h1 : (assignEach [.Subscript o i pos'] X.env).map (·.2) = [assign (.Subscript o i pos') X.env] := by rfl)
    (ha : ∀ v, assign (.Subscript o i pos') X.env v = (do
      let ov ← holding [v] (eval o X.env)
      let iv ← holding [v, ov] (eval i X.env)
      standAt pos'
      holding [v, ov, iv] (setItem ov iv v)
      release [v, ov, iv] []) := by intro _; rfl) : DS X (.Assign [.Subscript o i pos'] value pos) (wAsg we (gSubD wo wi sSub)) := ds_asg hv (dg_sub (pset_sub hu) ho hi ha) hs hw h1
/-- {} -/
def wDnew (t : Bool) : WE := fun sd S Q => ∀ p, S p = none → Q (.obj p) (S.set p (.dic t []))
theorem de_dnewT {pos : Pos} : DE X (.Dict [] [] pos) (wDnew true) := pe_imp pe_dnewT fun σ H Q ⟨sd, S, Q0, st, q, an⟩ p hp => by
  have n2 : Nx S H (S.set p (.dic true [])) (upd H p (.dT [])) := nx_obj hp (st.s.free hp)
  exact an _ _ _ _ (q p (st.s.free hp)) n2 (srel_put st.s n2 (.inr ⟨[], rfl, upd_same, rfl⟩)) rfl
/-- a, b = x, y with plain local names -/
def wPar (i j : Nat) (t : WA) : WS := fun E sd S => t sd S fun xs S1 => two2 xs fun x y => E.nx ((sd.set i (some x)).set j (some y)) S1
theorem ds_par {i j : Nat} {x y : Str} {a b : Expr} {t : WA} {px py pt pos pt2 : Pos} {kt k2 : Nat} (hc : X.calm = true) (hN : X.N.Nodup) (ha : DA X [a, b] t) (hi : X.N[i]? = some x := by rfl) (hj : X.N[j]? = some y := by rfl) (hij : i ≠ j := by decide)
    (hx : X.env.scope.names.lookup x = some .local := by rfl) (hy : X.env.scope.names.lookup y = some .local := by rfl) (hw : swappedStores [.Tuple [.Name x px, .Name y py] kt pt] (.Tuple [a, b] k2 pt2) X.env = pure (some [x, y]) := by rfl)
    (hs : swapsWithSole [.Tuple [.Name x px, .Name y py] kt pt] (.Tuple [a, b] k2 pt2) pos.line X.env = pure false := by rfl) : DS X (.Assign [.Tuple [.Name x px, .Name y py] kt pt] (.Tuple [a, b] k2 pt2) pos) (wPar i j t) :=
  ps_imp (ps_par hc hN hi hj hij hx hy ha hw hs) fun E σ H ⟨sd, S, E0, st, q, an⟩ => ⟨sd, S, _, st, q, fun xs S1 vs H1 q1 n1 s1 r1 => by
    obtain ⟨u, v, rfl, q1⟩ := two2_of q1
    obtain ⟨vu, vv, rfl, ru, rv⟩ := r1.two
    exact ⟨vu, vv, rfl, an.nx _ _ _ _ q1 n1 (((st.nx n1 s1).set i ru).set j rv)⟩⟩
def three (xs : List D) (k : D → D → D → Prop) : Prop := match xs with
  | [x, y, z] => k x y z
  | _ => False
def wPar3 (i j k : Nat) (t : WA) : WS := fun E sd S => t sd S fun xs S1 => three xs fun x y z => E.nx (((sd.set i (some x)).set j (some y)).set k (some z)) S1
end
end L2.DL

/-! DL10: enumerate over lists and tuples -/
namespace L2.DL
open PySem PySem.Spec PyProof.Rows

theorem meets_enum_tup (l : Addr) (items : Array Value) :
    Meets (Builtin.«enumerate.__new__» ⟨[.type "enumerate", .ref l], []⟩) (fun _ R s => s.heap.IsTuple l items ∧
      R (.ok (.ret (.ref (s.heap.push { cls := .type "tuple_iterator", data := .fields #[.ref l, .int 0 0] }).objs.size)))
        { s with heap := (s.heap.push { cls := .type "tuple_iterator", data := .fields #[.ref l, .int 0 0] }).push { cls := .type "enumerate", data := .fields #[.none, .bool false, .ref s.heap.objs.size, rawInt 0, .none, .none] } }) :=
  .of_wp fun prog w A R s h => by
    obtain ⟨hp, g, d, tk, os⟩ := s; obtain ⟨hL, h⟩ := h
    have hsub := sub_enumerate
    wp_walk using wpAny_pyIter_tuple hL
    refine wpAny_stack_any fun st => wpAny_pure ?_
    split
    · rename_i c _ _ _ _ _
      cases (c == Value.type "enumerate")
      · wp_walk using wpAny_pyIter_tuple hL
        exact ⟨_, rfl, h⟩
      · wp_walk using wpAny_pyIter_tuple hL
        exact ⟨_, rfl, h⟩
    · wp_walk using wpAny_pyIter_tuple hL
      exact ⟨_, rfl, h⟩
theorem call_enum_tup {prog : Program} {w : World} {A : Around} {E : Value → Shared → Prop} {s : Shared} {l : Addr} {items : Array Value} {Q : Value → Shared → Prop} (hL : s.heap.IsTuple l items)
    (h : ∀ h', IsEnum h' (s.heap.objs.size + 1) s.heap.objs.size 0 .none → h'.IsTupleIter s.heap.objs.size l 0 → h'.objs.size = s.heap.objs.size + 2 →
      (∀ b o, s.heap.get? b = some o → h'.get? b = some o) → Q (.ref (s.heap.objs.size + 1)) { s with heap := h' }) :
    wpAny (model prog w) A (call (.type "enumerate") [.ref l]) Q E s := by
  refine callType_new F.called_enumerate (by decide) (F.typeCall_enumerate_1 _) (F.newCall_enumerate_1 _) (fun obj => F.args_object_init_2 obj _) F.entry_enumerate_new
    (meets_enum_tup l items) ⟨hL, ?_⟩
  have hz : (s.heap.push { cls := .type "tuple_iterator", data := .fields #[.ref l, .int 0 0] }).objs.size = s.heap.objs.size + 1 := Heap.size_push ..
  show _ ∧ _
  rw [hz]
  have he : IsEnum ((s.heap.push { cls := .type "tuple_iterator", data := .fields #[.ref l, .int 0 0] }).push
      { cls := .type "enumerate", data := .fields #[.none, .bool false, .ref s.heap.objs.size, rawInt 0, .none, .none] }) (s.heap.objs.size + 1) s.heap.objs.size 0 .none := by
    have := Heap.get?_push_size (s.heap.push { cls := .type "tuple_iterator", data := .fields #[.ref l, .int 0 0] })
      (o := { cls := .type "enumerate", data := .fields #[.none, .bool false, .ref s.heap.objs.size, rawInt 0, .none, .none] }) rfl
    rw [hz] at this; exact this
  refine ⟨⟨_, he, rfl⟩, h _ he ⟨_, Heap.get?_push_of_some _ (Heap.get?_push_size _ rfl), rfl, rfl⟩ (by rw [Heap.size_push, hz]) fun b o x => Heap.get?_push_of_some _ (Heap.get?_push_of_some _ x)⟩
def IteT (K : PySem.W.Frag) (a : Addr) : It :=
  ⟨fun i H => ∃ (xs : List V) (x : V), SqT K H a xs ∧ xs[i]? = some x, fun i H v H' => ∃ T x, v = .ref T ∧ H T = none ∧ H' = upd H T (.tup [.int (i : Nat), x]) ∧ ∀ xs, SqT K H a xs → xs[i]? = some x, fun i H => ∃ xs : List V, SqT K H a xs ∧ xs.length = i⟩
theorem tup_ne {h : Heap} {a it : Addr} {items : Array Value} {i : Nat} (ht : h.IsTuple a items) (hi : h.IsTupleIter it a i) : a ≠ it := fun e => by
  obtain ⟨o, ho, hc, _⟩ := ht
  obtain ⟨o', ho', hc', _⟩ := hi
  rw [e, ho'] at ho
  cases ho
  rw [hc'] at hc
  exact absurd hc (by decide +kernel)
theorem turn_enumT {P : Program} {w : World} {K : PySem.W.Frag} {elts : List Expr} {kk : Nat} {tpos : Pos} (a e it : Addr) :
    Turn P w K (.Tuple elts kk tpos) (IteT K a) [e, it] e (fun i h => (∃ old, IsEnum h e it ((i : Nat) : Int) old) ∧ h.IsTupleIter it a i ∧ e ≠ it) where
  mem := by simp
  obj := fun i h st b hb => by
    obtain ⟨⟨old, he⟩, ⟨o, ho, hc, hd⟩, _⟩ := st
    have e' : b = e ∨ b = it := by simpa using hb
    rcases e' with z | z
    · rw [z]; exact ⟨_, he, fun v q => nomatch q⟩
    · rw [z]; exact ⟨o, ho, fun v q => by rw [hd] at q; cases q⟩
  keep := fun i h h' st k => let ⟨⟨old, he⟩, hi, hne⟩ := st; ⟨⟨old, k e (by simp) _ he⟩, hi.at fun o q => k it (by simp) o q, hne⟩
  item := by
    intro X hP hw hK hc i pins s σ H E I hf st hg
    subst hP hw hK
    obtain ⟨⟨old, he⟩, hit, hne⟩ := st
    obtain ⟨xs, x, hq, hx⟩ := hg
    obtain ⟨its, rv, p, hz⟩ := I.tuple hq
    obtain ⟨u, hu, ru⟩ := rv.get hx
    have p' : s.heap.IsTuple a its.toArray := p
    have hai := tup_ne p' hit
    have hae : e ∉ [it, a] := fun hm => by
      rcases List.mem_cons.mp hm with q | q
      · exact hne q
      · have q' := List.mem_singleton.mp q
        obtain ⟨o, ho, hco, _⟩ := p'
        rw [← q', he] at ho
        cases ho
        exact absurd (show Value.type "enumerate" = Value.type "tuple" from hco) (by decide +kernel)
    have hel : e < s.heap.objs.size := Heap.lt_size he
    have hil : it < s.heap.objs.size := by obtain ⟨_, q, _⟩ := hit; exact Heap.lt_size q
    have hlt : i < its.toArray.size := by
      have := (List.getElem?_eq_some_iff.mp hu).1
      simpa using this
    refine wpAny_pyNext_enum_itemC (Draws.tuple (prog := X.prog) (w := X.w) (A := X.A.in1) (I.ok.hd hc) it a hai its.toArray) he ⟨hit, p'⟩ hlt hne hae fun x' h' tk hx' ho hit' hT hsz hk => ?_
    have ex : x' = u := by
      have h1 : its.toArray[i]? = some x' := hx'
      have h2 : its.toArray[i]? = some u := by simpa using hu
      rw [h1] at h2
      exact Option.some.inj h2
    subst ex
    refine ⟨_, rfl, wpAny_letOwnedTupleGo_enum (s := { s with heap := h', toks := tk + 1 }) ho fun h'' he' sb => ?_⟩
    have hT2 : h''.get? s.heap.objs.size = some { cls := .type "tuple", data := .seq #[.int i tk, x'] } := (sb.2 _ (Nat.ne_of_gt hel)).trans hT
    have new : ObjOk X.prog X.w (upd H s.heap.objs.size (.tup [.int (i : Nat), x])) h'' s.heap.objs.size (.tup [.int (i : Nat), x]) :=
      ⟨by show 2 ≤ sizeLine; decide, [.int i tk, x'], .cons ⟨_, rfl⟩ (.cons ru .nil), ⟨_, hT2, rfl, _, rfl⟩⟩
    have I1 : Inv X pins σ (upd H s.heap.objs.size (.tup [.int (i : Nat), x])) { s with heap := h'', toks := tk + 1 } :=
      I.turnedNew (ch := [e, it]) (fun b ob hb q => (sb.2 b (fun z => hb (by simp [z]))).trans (hk b ob (fun z => hb (by simp [z])) (fun z => hb (by simp [z])) q)) hf (Nat.le_refl _) new
    refine ⟨.ref s.heap.objs.size, _, I1, rfl, ⟨_, x, rfl, I.hok.fresh (Nat.le_refl _), rfl, fun ys hy => by rw [I.tuple_inj hy hq]; exact hx⟩, ⟨⟨x', ?_⟩, hit'.1.at fun o q => (sb.2 it (Ne.symm hne)).trans q, hne⟩, fun b hb => ?_⟩
    · have e1 : ((i + 1 : Nat) : Int) = (i : Int) + 1 := by omega
      rw [e1]; exact he'
    · have hb' : b < s.heap.objs.size := by
        have e' : b = e ∨ b = it := by simpa using hb
        rcases e' with z | z
        · rw [z]; exact hel
        · rw [z]; exact hil
      rw [upd_ne (Nat.ne_of_lt hb')]
      exact (hf b hb).1
  done := by
    intro X hP hw hK hc i pins s σ H E I hf st hg
    subst hP hw hK
    obtain ⟨⟨old, he⟩, hit, hne⟩ := st
    obtain ⟨xs, hq, hx⟩ := hg
    obtain ⟨its, rv, p, hz⟩ := I.tuple hq
    have p' : s.heap.IsTuple a its.toArray := p
    obtain ⟨f0, f1, f2, f3, f4, f5⟩ := hf it (by simp)
    have hl := rv.length
    have hn : its.toArray.size = i := by rw [List.size_toArray, ← hl]; exact hx
    subst hn
    exact wpAny_pyNext_enum_endD (Draws.tuple (prog := X.prog) (w := X.w) (A := X.A.in1) (I.ok.hd hc) it a (tup_ne p' hit) its.toArray) he ⟨hit, p'⟩ fun h' eb => ⟨rfl, I.turned (t' := s.toks) (fun b o hb q => eb b o hb q) f0 f1 f3 f4 f5⟩
  self := fun A i s Q E st h => let ⟨⟨_, he⟩, _⟩ := st; wpAny_pyIter_enum he h
/-- enumerate(x) of a list or a tuple -/
def iEnumA (K : PySem.W.Frag) (ta : TA) : TI := fun σ H R => ta σ H fun vs H1 => ∃ a xs, vs = [.ref a] ∧ ((SqL K H1 a xs ∧ R (Ite K a) H1) ∨ (SqT K H1 a xs ∧ R (IteT K a) H1))
theorem pi_enumA {X : Cx} {e : Expr} {ta : TA} {p pos tpos : Pos} {elts : List Expr} {kk : Nat} (hg : Gl X "enumerate") (hm : X.mg "enumerate" = none) (ha : PA X [e] ta) (hs : starEach [e] X.env = [(false, eval e X.env)] := by rfl) :
    PI X (.Tuple elts kk tpos) (.Call (.Name "enumerate" p) [e] [] pos) (iEnumA X.K ta) := by
  refine ⟨fun pins s σ H R I h => ?_⟩
  refine Call_ (ld_blt I hg hm boot_enumerate (PyProof.Rows.callWith_type1 (thn (ha.run pos pins s σ H _ I h) fun us s1 ⟨vs, H1, I1, r1, q1⟩ => ?_) hs rfl))
  obtain ⟨a, xs, ex, q⟩ := q1
  subst ex
  cases r1 with
  | cons r rr =>
    cases rr
    cases r
    have fresh : ∀ b, b ∈ [s1.heap.objs.size + 1, s1.heap.objs.size] → FpOk X pins H1 b := fun b hb => by
      have e' : b = s1.heap.objs.size + 1 ∨ b = s1.heap.objs.size := by simpa using hb
      have hle : s1.heap.objs.size ≤ b := by
        rcases e' with z | z
        · rw [z]; exact Nat.le_add_right _ _
        · rw [z]; exact Nat.le_refl _
      exact I1.fpOk hle (I1.hok.fresh hle)
    rcases q with ⟨hq, q⟩ | ⟨hq, q⟩
    · obtain ⟨its, rv, p', hz⟩ := I1.list hq
      refine call_enumerate_list p'.isList fun h' he hit hsz hk => wpAny_pyIter_enum he ?_
      have I2 : Inv X pins σ H1 { s1 with heap := h' } := I1.kept (t' := s1.toks) hk
      exact ⟨s1.heap.objs.size + 1, [s1.heap.objs.size + 1, s1.heap.objs.size], _, _, H1, rfl, I2, turn_enum a (s1.heap.objs.size + 1) s1.heap.objs.size, ⟨⟨.none, he⟩, hit, Nat.succ_ne_self _⟩, fresh, q⟩
    · obtain ⟨its, rv, p', hz⟩ := I1.tuple hq
      refine call_enum_tup (show s1.heap.IsTuple a its.toArray from p') fun h' he hit hsz hk => wpAny_pyIter_enum he ?_
      have I2 : Inv X pins σ H1 { s1 with heap := h' } := I1.kept (t' := s1.toks) hk
      exact ⟨s1.heap.objs.size + 1, [s1.heap.objs.size + 1, s1.heap.objs.size], _, _, H1, rfl, I2, turn_enumT a (s1.heap.objs.size + 1) s1.heap.objs.size, ⟨⟨.none, he⟩, hit, Nat.succ_ne_self _⟩, fresh, q⟩
def enumD (xs : List D) : List D := xs.mapIdx fun i d => .tup [.int (i : Nat), d]
theorem enumD_eq (xs : List D) : enumD xs = xs.mapIdx fun i d => .tup [.int (i : Nat), d] := rfl
theorem enumD_len (xs : List D) : (enumD xs).length = xs.length := by rw [enumD_eq, List.length_mapIdx]
theorem enumD_get {xs : List D} {i : Nat} {d : D} (h : (enumD xs)[i]? = some d) : ∃ x, xs[i]? = some x ∧ d = .tup [.int (i : Nat), x] := by
  rw [enumD_eq, List.getElem?_mapIdx] at h
  obtain ⟨x, hx, rfl⟩ := Option.map_eq_some_iff.mp h
  exact ⟨x, hx, rfl⟩
def wEnum (t : WA) : WI := fun sd S R => t sd S fun xs S1 => one xs fun d => seqD d S1 fun ys ok => R ⟨enumD ys, ok⟩ S1
theorem new_pair {K : PySem.W.Frag} {S : SO} {H : Hp} {T : Addr} {i : Int} {x : V} {d : D} (s : SRel K S H) (hT : H T = none) (r : Rel K S H d x) : Nx S H S (upd H T (.tup [.int i, x])) ∧ SRel K S (upd H T (.tup [.int i, x])) ∧ Rel K S (upd H T (.tup [.int i, x])) (.tup [.int i, d]) (.ref T) :=
  ⟨nx_new hT, s.new hT, T, _, rfl, ⟨s.free hT, upd_same⟩, .int i, [x], rfl, rfl, x, [], rfl, Rel.nx (nx_new hT) _ _ r, rfl⟩
theorem jrel_enumL {K : PySem.W.Frag} {S0 : SO} {H0 : Hp} {a : Addr} {xs : List D} {ok : SO → Prop} (h : ∀ S H, Nx S0 H0 S H → SRel K S H → ok S → ∃ vs, SqL K H a vs ∧ Rels K S H xs vs) : JRel K S0 H0 ⟨enumD xs, ok⟩ (Ite K a) where
  go := fun i S H n s o hi => by
    obtain ⟨vs, q, r⟩ := h S H n s o
    have hi' : i < xs.length := by rw [← enumD_len xs]; exact hi
    obtain ⟨v, hv, _⟩ := r.get (List.getElem?_eq_getElem hi')
    exact ⟨vs, v, q, hv⟩
  stop := fun i S H n s o hi => by
    obtain ⟨vs, q, r⟩ := h S H n s o
    exact ⟨vs, q, by rw [← r.length, ← enumD_len xs]; exact Nat.le_of_eq hi.symm⟩
  yld := fun i S H x H' d n s o hi y => by
    obtain ⟨vs, q, r⟩ := h S H n s o
    obtain ⟨T, x', rfl, hT, rfl, y⟩ := y
    obtain ⟨dx, hd, rfl⟩ := enumD_get hi
    obtain ⟨v, hv, rv⟩ := r.get hd
    have e := y vs q
    rw [hv] at e
    cases e
    exact new_pair s hT rv
theorem jrel_enumT {K : PySem.W.Frag} {S0 : SO} {H0 : Hp} {a : Addr} {xs : List D} {ok : SO → Prop} (h : ∀ S H, Nx S0 H0 S H → SRel K S H → ok S → ∃ vs, SqT K H a vs ∧ Rels K S H xs vs) : JRel K S0 H0 ⟨enumD xs, ok⟩ (IteT K a) where
  go := fun i S H n s o hi => by
    obtain ⟨vs, q, r⟩ := h S H n s o
    have hi' : i < xs.length := by rw [← enumD_len xs]; exact hi
    obtain ⟨v, hv, _⟩ := r.get (List.getElem?_eq_getElem hi')
    exact ⟨vs, v, q, hv⟩
  stop := fun i S H n s o hi => by
    obtain ⟨vs, q, r⟩ := h S H n s o
    exact ⟨vs, q, by rw [← r.length, ← enumD_len xs]; exact hi.symm⟩
  yld := fun i S H x H' d n s o hi y => by
    obtain ⟨vs, q, r⟩ := h S H n s o
    obtain ⟨T, x', rfl, hT, rfl, y⟩ := y
    obtain ⟨dx, hd, rfl⟩ := enumD_get hi
    obtain ⟨v, hv, rv⟩ := r.get hd
    have e := y vs q
    rw [hv] at e
    cases e
    exact new_pair s hT rv
theorem di_enum {X : Cx} {e : Expr} {t : WA} {p pos tpos : Pos} {elts : List Expr} {kk : Nat} (hm : X.mg "enumerate" = none) (ha : DA X [e] t) (hg : Gl X "enumerate" := by rfl) (hs : starEach [e] X.env = [(false, eval e X.env)] := by rfl) :
    DI X (.Tuple elts kk tpos) (.Call (.Name "enumerate" p) [e] [] pos) (wEnum t) := by
  refine pi_imp (pi_enumA hg hm ha hs) fun σ H R ⟨sd, S, R0, st, q, an⟩ => ⟨sd, S, _, st, q, fun xs S1 vs H1 q1 n1 s1 r1 => ?_⟩
  obtain ⟨d, rfl, q1⟩ := one_of q1
  obtain ⟨v, rfl, rv⟩ := r1.v1
  cases d with
  | lst xs =>
    obtain ⟨a, vs, rfl, t, hv, r⟩ := rv
    exact ⟨a, vs, rfl, .inl ⟨.of hv, an _ _ _ _ q1 n1 s1 (jrel_enumL fun S2 H2 n2 s2 _ => ⟨vs, .of (n2 a _ t hv).2, r.nx n2⟩)⟩⟩
  | src xs =>
    obtain ⟨a, vs, rfl, t, r⟩ := rv
    exact ⟨a, vs, rfl, .inl ⟨t.sq, an _ _ _ _ q1 n1 s1 (jrel_enumL fun S2 H2 n2 s2 _ => ⟨vs, (t.nx n2).sq, r.nx n2⟩)⟩⟩
  | tup xs =>
    obtain ⟨a, vs, rfl, t, r⟩ := rv
    exact ⟨a, vs, rfl, .inr ⟨t.sq, an _ _ _ _ q1 n1 s1 (jrel_enumT fun S2 H2 n2 s2 _ => ⟨vs, (t.nx n2).sq, r.nx n2⟩)⟩⟩
  | tf xs =>
    obtain ⟨a, vs, rfl, t, r⟩ := rv
    exact ⟨a, vs, rfl, .inr ⟨t.sq, an _ _ _ _ q1 n1 s1 (jrel_enumT fun S2 H2 n2 s2 _ => ⟨vs, (t.nx n2).sq, r.nx n2⟩)⟩⟩
  | kt xs =>
    obtain ⟨a, vs, rfl, t, r⟩ := rv
    exact ⟨a, vs, rfl, .inr ⟨t.sq, an _ _ _ _ q1 n1 s1 (jrel_enumT fun S2 H2 n2 s2 _ => ⟨vs, t.sq, r.nx n2⟩)⟩⟩
  | obj a =>
    obtain ⟨xs, hx, q1⟩ := q1
    have e : v = .ref a := rv
    subst e
    obtain ⟨vs, hq, r⟩ := SqL.uniq hx s1
    exact ⟨a, vs, rfl, .inl ⟨hq, an _ _ _ _ q1 n1 s1 (jrel_enumL fun S2 H2 n2 s2 o => SqL.uniq o s2)⟩⟩
  | _ => exact False.elim q1
end L2.DL

/-! DL11: dict comprehensions whose keys are ints and texts, or tuples of these -/
namespace L2.DL
open PySem PySem.Spec PyProof.Rows

/-- the empty dict of that kind -/
def ob0 : Bool → HO
  | true => .dT []
  | false => .dK []
theorem ob0_ok {P : Program} {w : World} {H : Hp} (t : Bool) (h : Heap) (hb : sysModules < h.objs.size) : ObjOk P w H (h.push { cls := .type "dict", data := .dict #[] }) h.objs.size (ob0 t) := by
  cases t with
  | true => exact dt_empty h hb
  | false => exact dk_empty h hb
theorem d_dictPut {X : Cx} {pins : List (Addr × Obj)} {σ : St} {H H' : Hp} {s : Shared} {E : Value → Shared → Prop} {a : Addr} {y v : V} {u r : Value} {Q : Unit → Shared → Prop} (hu : X.A.units + 65 < cLine) (I : Inv X pins σ H s) (g : DPut H a y v H') (ry : RelV y u) (rv : RelV v r)
    (h : ∀ s', Inv X pins σ H' s' → Q () s') : wpAny (model X.prog X.w) X.A (dictSet a u r) Q E s := by
  rcases g with ⟨kvs, k, e, rfl, l, rfl⟩ | ⟨kvs, k, b, e, rfl, eb, l, rfl⟩
  · exact d_dictSet I e l ry rv h
  · obtain rfl : u = Value.ref b := ry
    obtain ⟨z, hd, xs, rel, dd⟩ := dt_of I.hok e
    have lx := Paired.length rel
    have lp := length_putK kvs k v
    refine wpAny_dictSet_heap (hsz := by omega) (show X.A.units < cLine by omega) (key_of I.hok eb) dd fun h' dd' hs => h _ ?_
    obtain ⟨q, es, ep, hq, h2, h3, h4, _, h5⟩ := dd'
    refine d_write I (by rw [e]; trivial) hs ⟨q, hq⟩ ⟨by omega, hd, _, (rel.put k eb rv).keeps fun c ys ec => ?_, q, es, ep, hq, h2, h3, h4, h5⟩
    exact (upd_ne (ne_of ec e (fun z => nomatch z))).trans ec
/-- the comprehension's reading: D the new dict -/
def tDcG (t : Bool) (wi : TI) (g : TG) (tt : TT) (tk tv : TE) (vs : List Nat) : TE := fun σ H Q => wi σ H fun J H1 => ∀ D, H1 D = none → ∃ W : Nat → Nat → Hp → Prop, (∃ m, W 0 m (upd H1 D (ob0 t))) ∧ ∀ i m H, W i m H →
  (J.stop i H ∧ Q (.ref D) H) ∨ (J.go i H ∧ ∃ N : Hp → Prop, (∀ H', N H' → ∃ m', m' < m ∧ W (i + 1) m' H') ∧ ∀ x H', J.yld i H x H' → g x (wipe σ vs) H' fun σ2 H2 => wipe σ2 vs = wipe σ vs ∧ tt σ2 H2 fun b H3 =>
    if b = true then tk σ2 H3 fun y H4 => tv σ2 H4 fun z H5 => ∃ H6, DPut H5 D y z H6 ∧ N H6 else N H3)
section
variable {X : Cx}
theorem dcG_core {t : Bool} {pins : List (Addr × Obj)} {s : Shared} {σ : St} {H : Hp} {Q : VK} {kx vx tg iter : Expr} {ifs : List Expr} {scope : Scope} {own : List (Str × Nat)} {pos pos' : Pos} {wi : TI} {g : TG} {tt : TT} {tk tv : TE} {use : Option (Value → Sem Unit)} {Qf : Value → Shared → Prop}
    (hu : X.A.units + 65 < cLine) (hc : X.calm = true) (hN : X.N.Nodup) (I : Inv X pins σ H s) (hi : PI X tg iter wi) (ok : BlkOk X.N X.env.scope scope own) (hg : Blk X scope fun Y => PG Y tg g) (ht : Blk X scope fun Y => PTs Y ifs tt) (hk : Blk X scope fun Y => PE Y kx tk) (he : Blk X scope fun Y => PE Y vx tv)
    (hs : ∀ x, foldedSetIterable iter X.env x = pure x) (h : tDcG t wi g tt tk tv (own.map (·.2)) σ H Q)
    (hRR : ∀ D C s' m H', Inv X pins σ H' s' → Q (.ref D) H' → s'.heap.Ns C m → FpOk X pins H' C → compPost (model X.prog X.w) X.A X.xe use Qf (.ref D) C (.ok .next) s') :
    wpAny (model X.prog X.w) X.A (comprehension (.DictComp kx vx [⟨tg, iter, ifs, 0⟩] scope pos) scope X.env pos' newDict false (eval iter X.env) use) Qf X.xe s := by
  have frees : ∀ y ∈ scope.names, y.2 = .free → ∃ c, X.env.cells.lookup y.1 = some c := fun y hy e => (ok.free y hy e).elim (fun k => I.ok.has _ (.inl k)) fun k => I.ok.has _ (.inr k)
  refine wpAny_comprehension_free (use := use) rfl hs (closure_ok frees) ok.kind (fun y hy e => by rw [ok.uniq y hy, e])
    (thn (hi.run pins s σ H _ I h) fun xv s1 hx => thn hx fun itv s2 h2 => ?_)
  obtain ⟨it, fp, tn, J, H2, e, I2, T, st2, f2, q⟩ := h2
  subst e
  refine wpAny_newObj_type (newEnv_comp ?_)
  generalize hD : s2.heap.objs.size = D
  obtain ⟨W, ⟨m0, w0⟩, turn⟩ := q D (I2.hok.fresh (Nat.le_of_eq hD))
  generalize hs3 : ({ s2 with heap := s2.heap.push { cls := .type "dict", data := .dict #[] } } : Shared) = s3
  have h3 : s3.heap = s2.heap.push { cls := .type "dict", data := .dict #[] } := by rw [← hs3]
  have I3 : Inv X pins σ (upd H2 D (ob0 t)) s3 := by
    subst hs3 hD
    exact I2.laid (t' := s2.toks) (fun b o e => Heap.get?_push_of_some _ e) (Nat.le_refl _) (ob0_ok t s2.heap I2.big)
  have old : ∀ b ∈ fp, b < s2.heap.objs.size := fun b hb => let ⟨o, e, _⟩ := T.obj _ _ st2 b hb; Heap.lt_size e
  have f3 : ∀ b ∈ fp, FpOk X pins (upd H2 D (ob0 t)) b ∧ b < s3.heap.objs.size := fun b hb =>
    ⟨⟨(upd_ne (by rw [← hD]; exact Nat.ne_of_lt (old b hb))).trans (f2 b hb).1, (f2 b hb).2⟩, by rw [h3, Heap.size_push]; exact Nat.lt_succ_of_lt (old b hb)⟩
  have st3 : tn 0 s3.heap := T.keep _ _ _ st2 fun b _ o e => h3 ▸ Heap.get?_push_of_some _ e
  have I4 := block_start I3 ok hN f3
  show codeAny _ _ (.compStart (.DictComp kx vx [⟨tg, iter, ifs, 0⟩] scope pos) 0 (.ref it) (.ref D) (compEnvC scope (cellsFrom (s3.heap.objs.size + 1) scope.names (cloFrom X.env.cells scope.names [])) s3.heap.objs.size X.env)) (compPost (model X.prog X.w) X.A X.xe use Qf (.ref D) s3.heap.objs.size) { s3 with heap := pushCells (s3.heap.push { cls := .type "dict", data := .dict #[] }) scope.names }
  have pg := hg s3 (upd H2 D (ob0 t)) s3.heap.objs.size (cellsFrom (s3.heap.objs.size + 1) scope.names (cloFrom X.env.cells scope.names [])) fp
  have pt := ht s3 (upd H2 D (ob0 t)) s3.heap.objs.size (cellsFrom (s3.heap.objs.size + 1) scope.names (cloFrom X.env.cells scope.names [])) fp
  have pk := hk s3 (upd H2 D (ob0 t)) s3.heap.objs.size (cellsFrom (s3.heap.objs.size + 1) scope.names (cloFrom X.env.cells scope.names [])) fp
  have pe := he s3 (upd H2 D (ob0 t)) s3.heap.objs.size (cellsFrom (s3.heap.objs.size + 1) scope.names (cloFrom X.env.cells scope.names [])) fp
  generalize hce : compEnvC scope (cellsFrom (s3.heap.objs.size + 1) scope.names (cloFrom X.env.cells scope.names [])) s3.heap.objs.size X.env = ce at I4 pg pt pk pe ⊢
  have cL : ce.locals = s3.heap.objs.size := by rw [← hce]; rfl
  generalize hH3 : upd H2 D (ob0 t) = H3 at I3 I4 pg pt pk pe w0 f3
  generalize hs4 : ({ s3 with heap := pushCells (s3.heap.push { cls := .type "dict", data := .dict #[] }) scope.names } : Shared) = s4 at I4 ⊢
  have st4 : tn 0 s4.heap := T.keep _ _ _ st3 fun b _ o e => hs4 ▸ pushCells_keeps _ _ _ _ (Heap.get?_push_of_some _ e)
  have stat : ∀ {σ' : St} {H' : Hp} {s' : Shared}, Inv (X.blk s3 H3 scope ce fp) [] σ' H' s' → (∀ b ∈ fp, H' b = none) → ∀ b ∈ fp, FpOk (X.blk s3 H3 scope ce fp) [] H' b := fun {σ' H' s'} I' hn b hb =>
    ⟨hn b hb, (I'.ok.exf b hb).1, I'.ok.exfs b hb, .inl hb, fun x c e => (I'.ok.exf b hb).2 x c e, fun p hp => nomatch (show p ∈ ([] : List (Addr × Obj)) from by simpa using hp)⟩
  have loop : codeAny (model X.prog X.w) X.A (.compLoop (.DictComp kx vx [⟨tg, iter, ifs, 0⟩] scope pos) 0 (.ref it) (.ref D) ce) (compPost (model X.prog X.w) X.A X.xe use Qf (.ref D) s3.heap.objs.size) s4 := by
    refine compLoop_anyD (fun n s' => ∃ i H', Inv (X.blk s3 H3 scope ce fp) [] (wipe σ (own.map (·.2))) H' s' ∧ tn i s'.heap ∧ (∀ b ∈ fp, H' b = none) ∧ W i n H') ?_ m0 ⟨0, H3, I4, st4, fun b hb => (f3 b hb).1.1, w0⟩
    rintro n s5 ⟨i, H5, I5, st5, n5, w5⟩
    rcases turn i n H5 w5 with ⟨stop, qq⟩ | ⟨go, N, hN', step⟩
    · refine thnF (T.done (X.blk s3 H3 scope ce fp) rfl rfl rfl hc i [] s5 _ H5 (fun _ _ => False) I5 (stat I5 n5) st5 stop) fun r s6 ⟨hr, I6⟩ => ?_
      subst hr
      have I7 : Inv X pins σ H5 s6 := I3.call' (ch := fp) I6.os I6.base I6.hok I6.bare fun b hb => let ⟨_, a1, a2, a3, a4, a5⟩ := (f3 b hb).1; ⟨a3, a1, a4, a5⟩
      have nC : H5 s3.heap.objs.size = none := cL ▸ (show H5 ce.locals = none from I6.free)
      obtain ⟨m, hn, _⟩ := I6.loc
      exact hRR D s3.heap.objs.size s6 m H5 I7 qq (cL ▸ (show s6.heap.Ns ce.locals m from hn)) (I3.fpOk (Nat.le_refl _) nC)
    · refine thnF (T.item (X.blk s3 H3 scope ce fp) rfl rfl rfl hc i [] s5 _ H5 (fun _ _ => False) I5 (stat I5 n5) st5 go) fun r s6 ⟨u, hr, h6⟩ => ?_
      subst hr
      refine thnF h6 fun _ s7 ⟨x, H7, I7, r7, y7, st7, n7⟩ => ?_
      refine thnF (pg.run _ s7 _ H7 x u _ (I7.pinned (stat I7 n7) (T.obj _ _ st7)) r7 (step x H7 y7)) fun _ s8 ⟨σ8, H8, I8, hw8, q8⟩ => ?_
      refine thnF (pt.run _ s8 σ8 H8 _ I8 q8) fun b s9 ⟨H9, I9, q9⟩ => ?_
      have fin : ∀ {s' : Shared} {H' : Hp}, Inv (X.blk s3 H3 scope ce fp) ([] ++ pinsAt fp s7.heap) σ8 H' s' → N H' → ∃ m, m < n ∧ ∃ i H', Inv (X.blk s3 H3 scope ce fp) [] (wipe σ (own.map (·.2))) H' s' ∧ tn i s'.heap ∧ (∀ b ∈ fp, H' b = none) ∧ W i m H' := fun {s' H'} I' nx => by
        obtain ⟨m', hm, w'⟩ := hN' H' nx
        have pin' : ∀ b ∈ fp, ∀ o, s7.heap.get? b = some o → s'.heap.get? b = some o ∧ H' b = none := fun b hb o e => let z := I'.pin (b, o) (List.mem_append_right _ (List.mem_append_right _ (mem_pinsAt hb e))); ⟨z.1, z.2.1⟩
        refine ⟨m', hm, i + 1, H', (I'.unpinned (pins := [])).weak (by rw [← hw8, wipe_length]) (fun j v e => (wipe_some (hw8 ▸ e)).1), T.keep _ _ _ st7 fun b hb o e => (pin' b hb o e).1, fun b hb => ?_, w'⟩
        obtain ⟨o, e, _⟩ := T.obj _ _ st7 b hb
        exact (pin' b hb o e).2
      cases b with
      | false => exact fin I9 q9
      | true =>
        refine thnF (pk.run _ s9 σ8 H9 _ I9 q9) fun z s10 ⟨yk, H10, I10, r10, q10⟩ => ?_
        refine thnF (pe.run _ s10 σ8 H10 _ I10 q10) fun z2 s11 ⟨yv, H11, I11, r11, H12, g12, nx⟩ => ?_
        exact d_dictPut (X := X.blk s3 H3 scope ce fp) hu I11 g12 r10 r11 fun s12 I12 => fin I12 nx
  exact codeAny_compStart_dict loop (T.self X.A 0 _ _ _ st4 loop)
theorem pe_dcG {t : Bool} {kx vx tg iter : Expr} {ifs : List Expr} {scope : Scope} {own : List (Str × Nat)} {pos : Pos} {wi : TI} {g : TG} {tt : TT} {tk tv : TE} (hu : X.A.units + 65 < cLine) (hc : X.calm = true) (hN : X.N.Nodup) (hi : PI X tg iter wi) (ok : BlkOk X.N X.env.scope scope own)
    (hg : Blk X scope fun Y => PG Y tg g) (ht : Blk X scope fun Y => PTs Y ifs tt) (hk : Blk X scope fun Y => PE Y kx tk) (he : Blk X scope fun Y => PE Y vx tv) (hs : ∀ x, foldedSetIterable iter X.env x = pure x) :
    PE X (.DictComp kx vx [⟨tg, iter, ifs, 0⟩] scope pos) (tDcG t wi g tt tk tv (own.map (·.2))) := by
  refine ⟨fun pins s σ H Q I h => ?_⟩
  rw [arm_eval_DictComp]
  refine dcG_core hu hc hN I hi ok hg ht hk he hs h fun D C s' m H' I' q hn ⟨f0, f1, f2, f3, f4, f5⟩ => ⟨m, hn, fun h'' sb => ?_⟩
  exact ⟨.ref D, H', I'.turned (t' := s'.toks) (fun b o hb e => (sb.2 b hb).trans e) f0 f1 f3 f4 f5, rfl, q⟩
/-! ### .. over data -/
/-- p the new dict; R what is wanted behind it -/
structure DcG (t : Bool) (wi : WI) (nt : NT) (tt : WT) (wk we : WE) (vs : List Nat) (R : Addr → SO → Prop) (sd : SD) (S : SO) : Prop where
  ex : wi sd S fun J S1 => ∀ p, S1 p = none → ∃ Pv : Nat → SO → Prop, Pv 0 (S1.set p (.dic t [])) ∧ (∀ i S, Pv i S → J.ok S) ∧
  (∀ i d S, J.items[i]? = some d → Pv i S → putNT nt d (wipeD sd vs) fun sd2 => upT tt sd2 S fun b S2 => if b = true then up wk sd2 S2 fun k S3 => up we sd2 S3 fun y S4 => ∃ kvs, S4 p = some (.dic t kvs) ∧ keyOk t k ∧ kvs.length < 1000000 ∧ Pv (i + 1) (S4.set p (.dic t (dput kvs k y))) else Pv (i + 1) S2) ∧
  (∀ S, Pv J.items.length S → R p S)
theorem dcG_lift {t : Bool} {wi : WI} {nt : NT} {tt : WT} {wk we : WE} {vs : List Nat} {R : Addr → SO → Prop} {σ : St} {H : Hp} {Q : VK} {sd : SD} {S : SO} (hs : ∀ i ∈ nt.ix, i ∈ vs) (st : Sta X.K sd S σ H) (q : DcG t wi nt tt wk we vs R sd S)
    (hR : ∀ p S' H', R p S' → Nx S H S' H' → SRel X.K S' H' → Q (.ref p) H') : tDcG t (liftI X.K wi) (gNT X.K nt) (liftT X.K tt) (lift X.K wk) (lift X.K we) vs σ H Q := by
  refine ⟨sd, S, _, st, q.ex, fun J S1 H1 JV q1 n1 s1 jr p hp => ?_⟩
  obtain ⟨Pv, h0, hok, hst, hend⟩ := q1 p (s1.free hp)
  have n2 : Nx S1 H1 (S1.set p (.dic t [])) (upd H1 p (ob0 t)) := nx_obj hp (s1.free hp)
  have s2 : SRel X.K (S1.set p (.dic t [])) (upd H1 p (ob0 t)) := srel_put s1 n2 (by
    cases t with
    | true => exact .inr ⟨[], rfl, upd_same, rfl⟩
    | false => exact .inl ⟨[], rfl, upd_same, rfl⟩)
  refine ⟨fun i m H' => ∃ S', m = J.items.length - i ∧ i ≤ J.items.length ∧ Pv i S' ∧ SRel X.K S' H' ∧ Nx S1 H1 S' H', ⟨J.items.length, _, by simp, Nat.zero_le _, h0, s2, n2⟩, ?_⟩
  rintro i m H' ⟨S', rfl, hile, hp', s', n'⟩
  have o := hok i S' hp'
  by_cases hlt : i < J.items.length
  · refine .inr ⟨jr.go i S' H' n' s' o hlt, fun H2 => ∃ S2, Pv (i + 1) S2 ∧ SRel X.K S2 H2 ∧ Nx S1 H1 S2 H2, fun H2 ⟨S2, h1, h2, h3⟩ => ⟨J.items.length - (i + 1), by omega, S2, rfl, hlt, h1, h2, h3⟩, fun x H2 hy => ?_⟩
    have hi' := List.getElem?_eq_getElem hlt
    obtain ⟨n3, s3, r3⟩ := jr.yld i S' H' x H2 _ n' s' o hi' hy
    have nn := n'.trans n3
    refine nt_go hs ((st.nx (n1.trans nn) s3).wipe vs) r3 (hst i _ S' hi' hp') fun sd2 σ2 hk st2 hw => ⟨by rw [hw, wipe_wipe], upT_lift ?_⟩
    refine ⟨sd2, S', _, st2, hk, fun b S4 H4 q4 n4 s4 => ?_⟩
    cases b with
    | false => exact ⟨S4, q4, s4, nn.trans n4⟩
    | true =>
      refine up_lift ⟨sd2, S4, _, st2.nx n4 s4, q4, fun k S5 kv H5 q5 n5 s5 r5 => up_lift ⟨sd2, S5, _, (st2.nx n4 s4).nx n5 s5, q5, fun y S6 v H6 ⟨kvs, ha, hk, hl, q6⟩ n6 s6 r6 => ?_⟩⟩
      have da : DicAt X.K S6 H6 p t kvs := s6 p _ ha
      obtain ⟨ob, g, hd⟩ := da.put (Rel.nx n6 _ _ r5) hk r6 hl
      have n7 : Nx S6 H6 (S6.set p (.dic t (dput kvs k y))) (upd H6 p ob) := nx_put ha
      exact ⟨_, g, _, q6, srel_put s6 n7 (hd _ _ n7 upd_same), nn.trans (n4.trans (n5.trans (n6.trans n7)))⟩
  · have e : i = J.items.length := by omega
    subst e
    exact .inl ⟨jr.stop _ S' H' n' s' o rfl, hR p S' H' (hend S' hp') (n1.trans n') s'⟩
/-- .. frozen at the end, its parts pure: the dict is made of f of the items -/
noncomputable def dputsL : List (D × D) → List (D × D) → List (D × D)
  | acc, [] => acc
  | acc, (k, v) :: r => dputsL (dput acc k v) r
theorem dputsL_app : ∀ {xs : List (D × D)} {acc : List (D × D)} {y : D × D}, dputsL acc (xs ++ [y]) = dput (dputsL acc xs) y.1 y.2
  | [], acc, (k, v) => rfl
  | (k, v) :: xs, acc, y => dputsL_app (xs := xs)
theorem dputsL_len : ∀ (xs acc : List (D × D)), (dputsL acc xs).length ≤ acc.length + xs.length
  | [], acc => Nat.le_refl _
  | (k, v) :: xs, acc => by
    have h1 := dputsL_len xs (dput acc k v)
    have h2 := dput_length acc k v
    show (dputsL (dput acc k v) xs).length ≤ _
    rw [List.length_cons]
    omega
theorem dputsL_nodup : ∀ {kvs acc : List (D × D)}, (∀ p ∈ kvs, dget acc p.1 = none) → (kvs.map (·.1)).Nodup → dputsL acc kvs = acc ++ kvs
  | [], acc, _, _ => (List.append_nil _).symm
  | (k, v) :: r, acc, h, n => by
    have h0 : dget acc k = none := h (k, v) (List.mem_cons_self ..)
    have n' := List.nodup_cons.mp (show (k :: r.map (·.1)).Nodup from n)
    show dputsL (dput acc k v) r = _
    rw [dputsL_nodup (fun p hp => ?_) n'.2, dput_new h0, List.append_assoc]
    · rfl
    · have hne : ¬ k = p.1 := fun e => n'.1 (by rw [e]; exact List.mem_map_of_mem hp)
      rw [dget_put, if_neg hne]
      exact h p (List.mem_cons_of_mem _ hp)
structure DcP (t : Bool) (wi : WI) (nt : NT) (tt : WT) (wk we : WE) (vs : List Nat) (sd : SD) (S : SO) (Q : KD) : Prop where
  ex : ∃ R : ItD → SO → Prop, wi sd S R ∧ ∀ J S1, R J S1 → (∀ S', Ext S1 S' → J.ok S') ∧ J.items.length ≤ 100000 ∧ ∃ f : D → Option (D × D), (∀ d ∈ J.items, ∀ S', Ext S1 S' → putNT nt d (wipeD sd vs) fun sd2 =>
  tt sd2 S' fun b S2 => S2 = S' ∧ if b = true then up wk sd2 S' fun k S3 => S3 = S' ∧ keyOk t k ∧ up we sd2 S' fun y S4 => S4 = S' ∧ f d = some (k, y) else f d = none) ∧ Q (.dic t (dputsL [] (J.items.filterMap f))) S1
def wDcP (t : Bool) (wi : WI) (nt : NT) (tt : WT) (wk we : WE) (vs : List Nat) : WE := fun sd S Q => DcP t wi nt tt wk we vs sd S Q
theorem dcP_lift {t : Bool} {wi : WI} {nt : NT} {tt : WT} {wk we : WE} {vs : List Nat} {σ : St} {H : Hp} {Q : VK} (hx : ∀ i ∈ nt.ix, i ∈ vs) (h : lift X.K (wDcP t wi nt tt wk we vs) σ H Q) : tDcG t (liftI X.K wi) (gNT X.K nt) (liftT X.K tt) (lift X.K wk) (lift X.K we) vs σ H Q := by
  obtain ⟨sd, S, Q0, st, ⟨R, q, i⟩, an⟩ := h
  refine ⟨sd, S, R, st, q, fun J S1 H1 JV qR n1 s1 jr => ?_⟩
  obtain ⟨hok, hl, f, hf, q1⟩ := i J S1 qR
  obtain ⟨sd', S', R0, st', q', an'⟩ := dcG_lift (X := X) (t := t) (wi := fun _ S R => S = S1 ∧ R J S1) (tt := tt) (wk := wk) (we := we) (R := fun p S' => S' = S1.set p (.dic t (dputsL [] (J.items.filterMap f))) ∧ S1 p = none) (Q := Q) hx (st.nx n1 s1)
    ⟨⟨rfl, fun p hp => ⟨fun i S => S = S1.set p (.dic t (dputsL [] ((J.items.take i).filterMap f))), by simp [dputsL], fun i S e => by rw [e]; exact hok _ (ext_set hp), fun i d S hi e => by
      subst e
      have hd := hf d (List.mem_of_getElem? hi) _ (ext_set (o := .dic t (dputsL [] ((J.items.take i).filterMap f))) hp)
      have htk : (J.items.take (i + 1)).filterMap f = (J.items.take i).filterMap f ++ (f d).toList := by
        rw [List.take_add_one, hi, List.filterMap_append]
        cases q : f d with
        | none => simp [q]
        | some y => simp [q]
      have hlen : (dputsL [] ((J.items.take i).filterMap f)).length ≤ 100000 := by
        have h0 := dputsL_len ((J.items.take i).filterMap f) []
        have h1 := List.length_filterMap_le f (J.items.take i)
        have h2 : (J.items.take i).length ≤ J.items.length := by rw [List.length_take]; omega
        rw [List.length_nil] at h0
        omega
      have go : ∀ sd2 S0, S0 = S1.set p (.dic t (dputsL [] ((J.items.take i).filterMap f))) → (tt sd2 S0 fun b S2 => S2 = S0 ∧ if b = true then up wk sd2 S0 fun k S3 => S3 = S0 ∧ keyOk t k ∧ up we sd2 S0 fun y S4 => S4 = S0 ∧ f d = some (k, y) else f d = none) →
          upT tt sd2 S0 fun b S2 => if b = true then up wk sd2 S2 fun k S3 => up we sd2 S3 fun y S4 => ∃ kvs, S4 p = some (.dic t kvs) ∧ keyOk t k ∧ kvs.length < 1000000 ∧ S4.set p (.dic t (dput kvs k y)) = S1.set p (.dic t (dputsL [] ((J.items.take (i + 1)).filterMap f))) else S2 = S1.set p (.dic t (dputsL [] ((J.items.take (i + 1)).filterMap f))) := by
        intro sd2 S0 eS hh
        refine ⟨_, hh, fun b S2 ⟨e2, q2⟩ => ?_⟩
        subst e2
        cases b with
        | false =>
          have q2' : f d = none := q2
          show S2 = _
          rw [htk, q2', eS]
          simp
        | true =>
          obtain ⟨K0, q3, i3⟩ := q2
          refine ⟨K0, q3, fun k S3 q4 => ?_⟩
          obtain ⟨e3, ok, E0, q5, i5⟩ := i3 k S3 q4
          subst e3
          refine ⟨E0, q5, fun y S4 q6 => ?_⟩
          obtain ⟨e4, q7⟩ := i5 y S4 q6
          subst e4
          refine ⟨_, by rw [eS]; exact set_same, ok, by omega, ?_⟩
          rw [eS, set_set, htk, q7]
          show _ = S1.set p (.dic t (dputsL [] ((J.items.take i).filterMap f ++ [(k, y)])))
          rw [dputsL_app]
      cases nt with
      | n j => exact go _ _ rfl hd
      | t l =>
        cases d with
        | tup xs => exact ⟨hd.1, go _ _ rfl hd.2⟩
        | _ => exact False.elim hd, fun S e => ⟨by rw [e, List.take_length], hp⟩⟩⟩⟩
    fun p S' H' ⟨e, hp⟩ n' s' => by
      subst e
      obtain ⟨n2, s2, r2⟩ := frz_dic s' set_same
      rw [del_set hp] at n2 s2 r2
      exact an _ _ _ _ q1 (n1.trans (n'.trans n2)) s2 r2
  obtain ⟨rfl, q'⟩ := q'
  exact an' J S' H1 JV q' (.refl _ _) st'.s jr
theorem de_dcP {t : Bool} {kx vx tg iter : Expr} {ifs : List Expr} {scope : Scope} {own : List (Str × Nat)} {pos : Pos} {wi : WI} {nt : NT} {tt : WT} {wk we : WE} (hu : X.A.units + 65 < cLine) (hc : X.calm = true) (hN : X.N.Nodup) (hi : DI X tg iter wi) (ok : BlkOk X.N X.env.scope scope own)
    (hx : ∀ i ∈ nt.ix, i ∈ own.map (·.2)) (hg : Blk X scope fun Y => PG Y tg (gNT X.K nt)) (ht : Blk X scope fun Y => PTs Y ifs (liftT X.K tt)) (hk : Blk X scope fun Y => PE Y kx (lift X.K wk)) (he : Blk X scope fun Y => PE Y vx (lift X.K we))
    (hs : ∀ x, foldedSetIterable iter X.env x = pure x := by intro _; rfl) : DE X (.DictComp kx vx [⟨tg, iter, ifs, 0⟩] scope pos) (wDcP t wi nt tt wk we (own.map (·.2))) :=
  pe_imp (pe_dcG hu hc hN hi ok hg ht hk he hs) fun σ H Q h => dcP_lift hx h
end
end L2.DL

/-! DL12: isinstance; dict of pairs -/
namespace L2.DL
open PySem PySem.Spec PyProof.Rows

/-- a value's class: a built-in one by its name, an own one by its address -/
abbrev TyN := String ⊕ Addr
def objT : Option DO → Option TyN
  | some (.lst _) => some (.inl "list")
  | some (.dic _ _) => some (.inl "dict")
  | some (.ins C _) => some (.inr C)
  | some (.err _ _) => none
  | some (.tb _) => none
  | none => none
def tyX (S : SO) : D → Option TyN
  | .non => some (.inl "NoneType")
  | .bl _ => some (.inl "bool")
  | .int _ => some (.inl "int")
  | .str _ => some (.inl "str")
  | .tup _ => some (.inl "tuple")
  | .kt _ => some (.inl "tuple")
  | .tf _ => some (.inl "tuple")
  | .lst _ => some (.inl "list")
  | .src _ => some (.inl "list")
  | .dic _ _ => some (.inl "dict")
  | .fd _ _ => none
  | .gh _ _ => none
  | .ins C _ => some (.inr C)
  | .obj a => objT (S a)
  | .ty _ => none
def tyV' : TyN → Value
  | .inl n => .type n
  | .inr C => .ref C
structure InsOk (K : PySem.W.Frag) (C : Addr) : Prop where
  cl : Cls K C
  ha : PySem.W.findIn K (.ref C) "__class__" = some (some (.builtin "object.__class__"))
  hn : PySem.W.specialIn K (.builtin "object.__class__") "__get__" = some (some (.builtin "getset_descriptor.__get__"))
  htk : PySem.W.takesIn K (.builtin "object.__class__") = some true
  hm : PySem.W.mroIn K C (.type "object") = some true
theorem tyX_at {K : PySem.W.Frag} {S : SO} {H : Hp} {d : D} {v : V} {t : TyN} (s : SRel K S H) (r : Rel K S H d v) (e : tyX S d = some t) (hC : ∀ C, t = .inr C → InsOk K C) : TyX K H v (tyV' t) := by
  have dc : ∀ {a : Addr} {b : Bool} {kvs : List (D × D)}, DicAt K S H a b kvs → TyX K H (.ref a) (.type "dict") := fun h => by
    rcases h with ⟨l, _, hl, _⟩ | ⟨l, _, hl, _⟩
    · exact .base (.dK hl)
    · exact .base (.dT hl)
  have inst : ∀ {a C dx : Addr} {l : List (Str × V)}, H a = some (.ins C dx l) → InsOk K C → TyX K H (.ref a) (.ref C) := fun h o => .base (.ins h o.cl o.ha o.hn o.htk o.hm)
  cases d with
  | non =>
    have e1 : v = .non := r
    cases e
    rw [e1]
    exact .base .non
  | bl b =>
    have e1 : v = .bl b := r
    cases e
    rw [e1]
    exact .base (.bl b)
  | int b =>
    have e1 : v = .int b := r
    cases e
    rw [e1]
    exact .base (.int b)
  | str b =>
    have e1 : v = .str b := r
    cases e
    rw [e1]
    exact .base (.str b)
  | ty n => cases e
  | fd t kvs => cases e
  | gh d u => cases e
  | tup ds =>
    cases e
    obtain ⟨a, vs, rfl, t, _⟩ := r
    exact .base (.tup t.2)
  | lst ds =>
    cases e
    obtain ⟨a, vs, rfl, _, t, _⟩ := r
    exact .base (.lst t)
  | tf ds =>
    cases e
    obtain ⟨a, vs, rfl, ⟨_, o, t, _⟩, _⟩ := r
    exact .fTuple t
  | src ds =>
    cases e
    obtain ⟨a, vs, rfl, t, _⟩ := r
    rcases t with ⟨_, t | ⟨o, t⟩⟩ | ⟨o, its, n, h1, h2, _⟩
    · exact .base (.lst t)
    · exact .base (.frz t)
    · exact .kList h1 h2
  | kt ds =>
    cases e
    obtain ⟨a, vs, rfl, ⟨o, its, n, h1, h2, _⟩, _⟩ := r
    exact .kTuple h1 h2
  | dic t kvs =>
    cases e
    obtain ⟨a, rfl, _, da⟩ := r
    exact dc da
  | ins C fs =>
    cases e
    obtain ⟨a, dx, l, rfl, _, hl, _⟩ := r
    exact inst hl (hC C rfl)
  | obj a =>
    have e1 : v = .ref a := r
    rw [e1]
    have e2 : objT (S a) = some t := e
    cases q : S a with
    | none =>
      rw [q] at e2
      cases e2
    | some o =>
      rw [q] at e2
      have z := s a o q
      cases o with
      | lst xs =>
        cases e2
        obtain ⟨vs, hv, _⟩ := z
        exact .base (.lst hv)
      | dic b kvs =>
        cases e2
        exact dc z
      | ins C fs =>
        cases e2
        obtain ⟨dx, l, hl, _⟩ := z
        exact inst hl (hC C rfl)
      | err _ _ => cases e2
      | tb _ => cases e2
/-- isinstance(x, c) -/
def cIsi (c : D) (f : TyN → Option Bool) : WL := fun xs S Q => two2 xs fun x c' => c' = c ∧ ∃ t b, tyX S x = some t ∧ f t = some b ∧ Q (.bl b) S
theorem dc_isi {X : Cx} {c : D} {cv : V} {u : Value} {f : TyN → Option Bool} (hc : ∀ K S H v, Rel K S H c v → v = cv) (k : ClsV cv u) (hf : ∀ t b, f t = some b → PySem.W.kitOne X.K (tyV' t) u = some b) (hI : ∀ C b, f (.inr C) = some b → InsOk X.K C) : DC X (.builtin "isinstance") (cIsi c f) := by
  intro pins s σ H xs us Q I r ⟨ds, S, Q0, sr, rs, q, an⟩
  obtain ⟨x, c', rfl, rfl, t, b, ht, hb, q⟩ := two2_of q
  obtain ⟨v, w, rfl, rv, rw'⟩ := rs.two
  have e := hc _ _ _ _ rw'
  subst e
  exact call_isi pins s σ H _ us Q I r ⟨v, w, tyV' t, u, b, rfl, k, tyX_at sr rv ht (fun C e => hI C b (e ▸ hb)), hf t b hb, ansd (.bl b) sr an q rfl⟩
/-- a built-in class: the names that a value's class may have -/
def tyNames : List String := ["NoneType", "bool", "int", "str", "tuple", "list", "dict"]
def subN (n T : String) : Bool := n == T || (n == "bool" && T == "int")
def fTy (T : String) (Cs : List Addr) : TyN → Option Bool
  | .inl n => if n ∈ tyNames then some (subN n T) else none
  | .inr C => if C ∈ Cs then some false else none
theorem kit_tab : ∀ n ∈ tyNames, ∀ T ∈ tyNames, kitB n T = some (subN n T) := by decide +kernel
theorem fTy_n {T n : String} {Cs : List Addr} {b : Bool} (h : fTy T Cs (.inl n) = some b) : n ∈ tyNames ∧ subN n T = b := by
  have h' : (if n ∈ tyNames then some (subN n T) else none) = some b := h
  by_cases hn : n ∈ tyNames
  · rw [if_pos hn] at h'
    exact ⟨hn, Option.some.inj h'⟩
  · rw [if_neg hn] at h'
    cases h'
theorem fTy_C {T : String} {C : Addr} {Cs : List Addr} {b : Bool} (h : fTy T Cs (.inr C) = some b) : C ∈ Cs ∧ b = false := by
  have h' : (if C ∈ Cs then some false else none) = some b := h
  by_cases hn : C ∈ Cs
  · rw [if_pos hn] at h'
    exact ⟨hn, (Option.some.inj h').symm⟩
  · rw [if_neg hn] at h'
    cases h'
theorem dc_isiT {X : Cx} (T : String) (Cs : List Addr) (hT : T ∈ tyNames := by decide) (hC : ∀ C ∈ Cs, InsOk X.K C ∧ PySem.W.kitOne X.K (.ref C) (.type T) = some false) : DC X (.builtin "isinstance") (cIsi (.ty T) (fTy T Cs)) :=
  dc_isi (cv := .ty T) (fun _ _ _ _ r => r) (.ty T) (fun t b h => by
    cases t with
    | inl n =>
      obtain ⟨hn, e⟩ := fTy_n h
      rw [← e]
      exact kit_ty (kit_tab n hn T hT)
    | inr C =>
      obtain ⟨hn, e⟩ := fTy_C h
      rw [e]
      exact (hC C hn).2) fun C b h => (hC C (fTy_C h).1).1
/-! ### dict of a list of pairs -/
section
variable {K : PySem.W.Frag} {S : SO} {H : Hp}
end
end L2.DL

/-! DL13: tuples without a dict: tuple(list), index; dict displays; repr -/
namespace L2.DL
open PySem PySem.Spec PyProof.Rows
section
variable {X : Cx}
/-- tuple(list), the tuple known to have no dict -/
def cTupleF : WL := fun xs S Q => one xs fun x => ∃ ys, lstX S x = some ys ∧ Q (.tf ys) S
theorem dc_tupleF : DC X (.type "tuple") cTupleF := by
  intro pins s σ H xs us Q I r ⟨ds, S, Q0, sr, rs, q, an⟩
  obtain ⟨x, rfl, ys, e, q⟩ := one_of q
  obtain ⟨v, rfl, rv⟩ := rs.v1
  obtain ⟨a, vs, rfl, hq, rns⟩ := lstX_at sr rv e
  obtain ⟨u, rfl, ru⟩ := vals1 r
  cases ru
  obtain ⟨its, r', pl, hz⟩ := I.list hq
  refine call_tuple_list pl.isList (fun h' kp => ?_) (by rw [List.size_toArray, ← r'.length]; exact hz)
  have I1 : Inv X pins σ H { s with heap := h' } := I.kept (t' := s.toks) kp
  have hf : H h'.objs.size = none := I1.hok.fresh (Nat.le_refl _)
  have I2 : Inv X pins σ (upd H h'.objs.size (.frz { cls := .type "tuple", data := .seq its.toArray } (.tup vs))) { s with heap := h'.push { cls := .type "tuple", data := .seq its.toArray } } :=
    I1.laid (t' := s.toks) (fun b o e => Heap.get?_push_of_some _ e) (Nat.le_refl _) ⟨Heap.get?_push_size _ rfl, hz, its, r', IsTup.new _ _⟩
  exact ⟨.ref h'.objs.size, _, I2, rfl, an _ _ _ _ q (nx_new hf) (sr.new hf) ⟨_, vs, rfl, ⟨sr.free hf, _, upd_same, rfl, rfl⟩, rns.nx (nx_new hf)⟩⟩
/-! ### methods of tuples -/
def wBMt (w : WM) (wo : WE) (t : WA) : WE := fun sd S Q => wo sd S fun d S1 => (∃ xs, d = .tf xs) ∧ t sd S1 fun xs S2 => w d xs S2 Q
theorem de_bmT {o e : Expr} {es : List Expr} {wo : WE} {t : WA} {name : Str} {apos cpos : Pos} {id : String} {w : WM} (hm : DM X id w) (slot : Slot "tuple" name id) (hty : typeOf (.builtin id) = pure (.type "method_descriptor")) (ho : DE X o wo) (ha : DA X (e :: es) t)
    (hbase : attributeBase o name X.env (eval o X.env) = eval o X.env := by rfl)
    (hfew : ((backTo cpos (starEach (e :: es) X.env)).all (fun x => !x.1) && (backToKw cpos (keywordEach [] X.env)).all (fun x => x.1.isSome)
      && decide ((e :: es).length + ([] : List Keyword).length + (if ([] : List Keyword).isEmpty then 0 else 1) < 30)) = true := by rfl)
    (hline : (apos.endLine == cpos.line) = true := by rfl) (hs : starEach (e :: es) X.env = (false, eval e X.env) :: starEach es X.env := by rfl) (hplain : (backTo cpos (starEach es X.env)).any (·.1) = false := by rfl) :
    DE X (.Call (.Attribute o name apos) (e :: es) [] cpos) (wBMt w wo t) := by
  refine ⟨fun pins s σ H Q I ⟨sd, S, Q0, st, q, an⟩ => ?_⟩
  refine wpAny_Call_method_late hbase hfew hline rfl (thn (ho.run pins s σ H (fun v H1 => ∃ sd S1 Q1 d, Sta X.K sd S1 σ H1 ∧ Rel X.K S1 H1 d v ∧ (∃ xs, d = .tf xs) ∧ (t sd S1 fun xs S2 => w d xs S2 Q1) ∧ Ans X.K S1 H1 Q1 Q) I
    ⟨sd, S, _, st, q, fun d S1 v H1 ⟨ty, q1⟩ n1 s1 r1 => ⟨sd, S1, Q0, d, st.nx n1 s1, r1, ty, q1, an.nx n1⟩⟩) fun u s1 ⟨v, H1, I1, ru, sd1, S1, Q1, d, st1, r1, ⟨ys, ed⟩, q1, an1⟩ => ?_)
  subst ed
  obtain ⟨a, vs, rfl, ⟨hn, ob, hfz, hd, hcl⟩, rv⟩ := r1
  cases ru
  obtain ⟨hob, _⟩ := (show ObjOk X.prog X.w H1 s1.heap a (.frz ob (.tup vs)) from I1.hok a _ hfz)
  refine ⟨"tuple", id, F.plainAttrs_tuple, slot, hty, ⟨ob, hob, hcl⟩, fun b e => ?_, ?_⟩
  · cases e
    exact ⟨ob, hob, hd⟩
  · have hA := ha.run cpos pins s1 σ H1 (fun xs H2 => liftM X.K w (.ref a) xs H2 Q) I1 ⟨sd1, S1, _, st1, q1, fun xs S2 us H2 q2 n2 s2 r2 => ⟨.tf ys, xs, S2, Q1, s2, Rel.nx n2 (.tf ys) _ ⟨a, vs, rfl, ⟨hn, ob, hfz, hd, hcl⟩, rv⟩, r2, q2, an1.nx n2⟩⟩
    rw [hs] at hA ⊢
    refine Calls.callWith_builtin (by show (false || (backTo cpos (starEach es X.env)).any (·.1)) = false; rw [hplain] <;> rfl) (Calls.evalArgs_plain ?_)
    exact thn hA fun us s2 ⟨vs', H2, I2, r2, q2⟩ => hm pins s2 σ H2 (.ref a) vs' (.ref a) us Q I2 rfl r2 q2
/-! ### {k: v} -/
/-! ### repr -/
end
end L2.DL

/-! DL14: walks over texts; the law's head over data -/
namespace L2.DL
open PySem PySem.Spec PyProof.Rows
/-! ### for sign in text -/
def signsD (x : Str) : List D := x.cps.toList.map fun c => .str ⟨#[c]⟩
def wStrI (we : WE) : WI := fun sd S R => we sd S fun d S1 => match d with
  | .str x => R ⟨signsD x, fun _ => True⟩ S1
  | _ => False
theorem signs_len (x : Str) : (signsD x).length = x.cps.size := by unfold signsD; rw [List.length_map, Array.length_toList]
theorem jrel_str {K : PySem.W.Frag} {S0 : SO} {H0 : Hp} {x : Str} {ok : SO → Prop} : JRel K S0 H0 ⟨signsD x, ok⟩ (Its x) where
  go := fun i S H n s o hi => by
    have hi' : i < (signsD x).length := hi
    rw [signs_len] at hi'
    exact hi'
  stop := fun i S H n s o hi => by
    have hi' : i = (signsD x).length := hi
    rw [signs_len] at hi'
    exact Nat.le_of_eq hi'.symm
  yld := fun i S H v H' d n s o hi y => by
    obtain ⟨rfl, c, hc, rfl⟩ := y
    have hi' : (signsD x)[i]? = some d := hi
    unfold signsD at hi'
    rw [List.getElem?_map, Array.getElem?_toList, hc] at hi'
    cases hi'
    exact ⟨.refl _ _, s, rfl⟩
theorem di_str {X : Cx} {tg e : Expr} {we : WE} (he : DE X e we) : DI X tg e (wStrI we) := by
  refine pi_imp (pi_str he) fun σ H R ⟨sd, S, R0, st, q, an⟩ => ⟨sd, S, _, st, q, fun d S1 v H1 q1 n1 s1 r1 => ?_⟩
  cases d with
  | str x => exact ⟨x, r1, an _ _ _ _ q1 n1 s1 jrel_str⟩
  | _ => exact False.elim q1
theorem strIn_one (c : Nat) (z : Str) : strIn ⟨#[c]⟩ z = decide (c ∈ z.cps.toList) := PySem.StrLaws.found_one z c

/-! ### room -/
theorem Room.u65 {k : Nat} {A : Around} (r : Room k A) : A.units + 65 < cLine := by have := r.un; omega
/-! ### the law's head -/
section
variable {P : Program} {w : World} {K : PySem.W.Frag} {mg : Str → Option Value} {base : Heap}
/-- the law's call, from a heap in which the script alone may be tracked -/
theorem law_core {k : Nat} {fa a : Addr} {fd : FuncData} {x : Str} {sp : Sp} {s : Shared} {H : Hp} {vs : List Value} {mb : Str → Option Value} {ns : List Int}
    (KX : K.In s.heap) (hns : s.heap.Ns mainGlobals mg) (hb : s.heap.Ns builtinsNs mb) (hbb : ∀ x : Str, x ≠ "__name__" → mb x = bootBuiltins x) (hlim : s.heap.NoLimit) (hg : s.gens = #[])
    (ha : s.heap.get? a = some { cls := .type "list", data := .seq vs.toArray }) (hr : Room k callerA)
    (F : ∀ base : Heap, K.In base → base.Ns mainGlobals mg → FnG P w K mg base CX0 k fa fd [x] sp) (hbind : ∀ (s : Shared) (u : Value), BindsTo s fd ⟨[u], []⟩ [(x, u)])
    (hO : Only H) (hok : HOk P w H s.heap) (hA : ∀ b, H b ≠ none → b = a) (hK : H a ≠ none → K.lookup a = none) (hsp : sp [.ref a] H (fun v _ => v = .bl true) fun _ _ _ => False) :
    codeAny (model P w) callerA (.call (.ref fa) ⟨[.ref a], []⟩) (fun r s' => r = .ok (.ret (.bool true)) ∧ OldK s.heap s'.heap ∧ s'.os = s.os ∧ AllBare s'.gens) s := by
  have only : ∀ {b : Addr}, (b ≠ a ∨ ∃ o, s.heap.get? b = some o ∧ ∃ es ep, o.data = .dict es ep) → H b = none := fun {b} h => by
    cases q : H b with
    | none => rfl
    | some u =>
      have e := hA b (by rw [q]; exact fun z => nomatch z)
      subst e
      rcases h with h | ⟨o, h1, es, ep, h2⟩
      · exact absurd rfl h
      · rw [ha] at h1
        cases h1
        exact nomatch (show Data.seq vs.toArray _ = Data.dict es ep from h2)
  have keepNs : ∀ {b : Addr} {m : Str → Option Value}, s.heap.Ns b m → (hidT s.heap H).Ns b m := fun ⟨o, es, ep, e, d, r⟩ => ⟨o, es, ep, hidT_get e (only (.inr ⟨o, e, es, ep, d⟩)), d, r⟩
  have keepK : K.In (hidT s.heap H) := fun b o e => hidT_get (KX b o e) (by
    by_cases hb : H b = none
    · exact hb
    · have eb := hA b hb
      subst eb
      rw [hK hb] at e
      cases e)
  obtain ⟨mc, lim1, lim2⟩ := hlim
  have M : Mod K mg (hidT s.heap H) := ⟨keepK, keepNs hns, ⟨mb, keepNs hb, hbb⟩, mc, keepNs lim1, lim2⟩
  have e0 : Env0 P w K mg (hidT s.heap H) callerA [] s H := ⟨rfl, M, fun b o e => of_hidT e, Nat.le_of_eq (hidT_size _ _), trivial, fun b hb => absurd hb (by simp [frs]), hok, .of_eq hg⟩
  have run := (F _ keepK (keepNs hns)).go callerA [] s H ⟨[.ref a], []⟩ [.ref a] [.ref a] _ _ hr rfl e0 (hbind s (.ref a)) (.cons rfl .nil) hsp
  refine codeAny_mono run fun r s' h => ?_
  cases r with
  | error e => exact (show False from h).elim
  | ok fl =>
    cases fl with
    | next => exact False.elim h
    | brk => exact False.elim h
    | cont => exact False.elim h
    | ret u =>
      obtain ⟨v, H', os, bare, un, hok', ru, ev⟩ := h
      subst ev
      have eu : u = Value.bool true := ru
      refine ⟨by rw [eu], OldK.of_keep fun b o e => ?_, os, bare⟩
      rcases hO b with z | ⟨ob, ys, z⟩
      · exact un.keep b o e z (fun h => absurd h (by simp [frs])) (by simp)
      · have h1 := (hok b _ z).1
        have h2 := (hok' b _ (un.frzs b ob _ z)).1
        rw [e] at h1
        cases h1
        exact h2
theorem law_callG {mb : Str → Option Value} {k : Nat} {fa a : Addr} {fd : FuncData} {x : Str} {sp : Sp} {s : Shared} {vs : List Value} {ns : List Int}
    (KX : K.In s.heap) (hns : s.heap.Ns mainGlobals mg) (hb : s.heap.Ns builtinsNs mb) (hbb : ∀ x : Str, x ≠ "__name__" → mb x = bootBuiltins x) (hlim : s.heap.NoLimit) (hg : s.gens = #[])
    (ha : s.heap.get? a = some { cls := .type "list", data := .seq vs.toArray }) (hi : IntsAre vs ns) (hl : ns.length ≤ sizeLine) (hr : Room k callerA)
    (F : ∀ base : Heap, K.In base → base.Ns mainGlobals mg → FnG P w K mg base CX0 k fa fd [x] sp) (hbind : ∀ (s : Shared) (u : Value), BindsTo s fd ⟨[u], []⟩ [(x, u)])
    (hsp : ∀ H : Hp, Only H → SqL K H a (ns.map V.int) → sp [.ref a] H (fun v _ => v = .bl true) fun _ _ _ => False) :
    codeAny (model P w) callerA (.call (.ref fa) ⟨[.ref a], []⟩) (fun r s' => r = .ok (.ret (.bool true)) ∧ OldK s.heap s'.heap ∧ s'.os = s.os ∧ AllBare s'.gens) s := by
  have rv := vals_ints hi
  by_cases hk : K.lookup a = none
  · let ob : Obj := { cls := .type "list", data := .seq vs.toArray }
    have at_ : (fun b => if b = a then some (HO.frz ob (.lst (ns.map V.int))) else none : Hp) a = some (.frz ob (.lst (ns.map V.int))) := if_pos rfl
    have off : ∀ b, b ≠ a → (fun b => if b = a then some (HO.frz ob (.lst (ns.map V.int))) else none : Hp) b = none := fun b hb => if_neg hb
    have on : ∀ b, (fun b => if b = a then some (HO.frz ob (.lst (ns.map V.int))) else none : Hp) b ≠ none → b = a := fun b h => Classical.byContradiction fun z => h (off b z)
    have O : Only (fun b => if b = a then some (HO.frz ob (.lst (ns.map V.int))) else none : Hp) := fun b => by
      by_cases h : b = a
      · exact .inr ⟨ob, _, by rw [h]; exact at_⟩
      · exact .inl (off b h)
    refine law_core (ns := ns) KX hns hb hbb hlim hg ha hr F hbind O (fun b u z => ?_) on (fun _ => hk) (hsp _ O (.inl (.inr ⟨ob, at_⟩)))
    have hba : b = a := Classical.byContradiction fun hne => nomatch (off b hne).symm.trans z
    subst hba
    have z2 := at_.symm.trans z
    cases z2
    exact ⟨ha, by rw [List.length_map]; exact hl, vs, _, rv, ha⟩
  · obtain ⟨o, ho⟩ : ∃ o, K.lookup a = some o := Option.ne_none_iff_exists'.mp hk
    have e := KX a o ho
    rw [ha] at e
    cases e
    have O : Only (fun _ => none) := fun _ => .inl rfl
    exact law_core (ns := ns) KX hns hb hbb hlim hg ha hr F hbind O (fun b u z => nomatch (show (none : Option HO) = some u from z)) (fun b h => absurd rfl h) (fun h => absurd rfl h)
      (hsp _ O (.inr ⟨_, vs.toArray, _, ho, rfl, rfl, rfl, by rw [List.size_toArray, hi.length]; exact hl, by simpa using rv⟩))
/-- the law's def promises: of a script of ints it says True -/
def LawSp (n : Nat) : DSp := fun ds S Q _ => ∃ ns : List Int, ds = [.src (ns.map D.int)] ∧ ns.length ≤ n ∧ S = (fun _ => none) ∧ ∀ S', Q (.bl true) S'
theorem walk_G {l : PySem.W.OpenLaw} {n k : Nat} {q : Program} {loose : List Str} {XP : (Str → Option Value) → Heap → Prop} {YP : World → Heap → Prop} {d : DefRec} {K : Params → PySem.W.Frag} {x : Str}
    (hn : l.most = some n) (hn2 : n ≤ sizeLine) (hdf : d.params.defaults = []) (hr : Room k callerA) (hY : ∀ (w : World) (h : Heap), YP w h → (K w.params).In h)
    (F : ∀ (w : World) (mg : Str → Option Value) (fa : Addr) (h : Heap), (K w.params).In h → h.Ns mainGlobals mg → mg d.name = some (.ref fa) →
      ∃ fd : FuncData, (∀ (s : Shared) (u : Value), BindsTo s fd ⟨[u], []⟩ [(x, u)]) ∧ ∀ base : Heap, (K w.params).In base → base.Ns mainGlobals mg → FnD l.prog w (K w.params) mg base k fa fd [x] (LawSp n)) :
    PySem.W.WalkO q loose XP YP l.row.toRowW d [] (fun f vs => PySem.call f vs) := by
  refine Att.attach_call hn hdf fun w s₀ s₁ mg mb fa o pm cd doc a vs ns G Y ho hd hcd hmg hobj hints hlen hg => ?_
  have KX := hY w _ Y
  obtain ⟨fd, hb, hF⟩ := F w mg fa _ KX G.T.g hmg
  refine law_callG KX G.T.g G.T.b G.T.builtins G.T.nolimit hg hobj hints (Nat.le_trans hlen hn2) hr hF hb fun H hO hS => ?_
  refine ⟨[.src (ns.map D.int)], fun _ => none, fun d _ => d = .bl true, NoE, (fun a o h => nomatch (show (none : Option DO) = some o from h)), ⟨.ref a, [], rfl, ⟨a, _, rfl, ?_, rels_of_ints ns⟩, rfl⟩, ⟨ns, rfl, hlen, rfl, fun _ => rfl⟩, fun d S' v H' e _ _ r => ?_, noE_ans⟩
  · rcases hS with h | h
    · exact .inl ⟨rfl, h⟩
    · exact .inr h
  · subst e
    exact r
end
end L2.DL

/-! DL15: how readings are answered -/
namespace L2.DL
open PySem PySem.Spec PyProof.Rows
theorem lcP_of {wi : WI} {nt : NT} {tt : WT} {we : WE} {vs : List Nat} {sd : SD} {S : SO} {Q : KD} (items : List D) (f : D → Option D) (hi : wi sd S fun J S1 => J = ⟨items, fun _ => True⟩ ∧ S1 = S) (hl : items.length ≤ 1000000)
    (hf : ∀ d ∈ items, ∀ S', Ext S S' → putNT nt d (wipeD sd vs) fun sd2 => tt sd2 S' fun b S2 => S2 = S' ∧ if b = true then up we sd2 S' fun y S3 => S3 = S' ∧ f d = some y else f d = none) (hq : Q (.lst (items.filterMap f)) S) : LcP wi nt tt we vs sd S Q :=
  ⟨⟨_, hi, fun J S1 ⟨e1, e2⟩ => by
    subst e1 e2
    exact ⟨fun _ _ => trivial, hl, f, hf, hq⟩⟩⟩
theorem lcP_map {wi : WI} {nt : NT} {we : WE} {vs : List Nat} {sd : SD} {S : SO} {Q : KD} (items : List D) (g : D → D) (hi : wi sd S fun J S1 => J = ⟨items, fun _ => True⟩ ∧ S1 = S) (hl : items.length ≤ 1000000)
    (hf : ∀ d ∈ items, ∀ S', Ext S S' → putNT nt d (wipeD sd vs) fun sd2 => we sd2 S' fun y S3 => S3 = S' ∧ g d = y) (hq : Q (.lst (items.map g)) S) : LcP wi nt wYes we vs sd S Q := by
  refine lcP_of items (fun d => some (g d)) hi hl (fun d hd S' e => ?_) (by rw [List.filterMap_eq_map']; exact hq)
  have h := hf d hd S' e
  cases nt with
  | n i => exact ⟨rfl, _, h, fun y S3 ⟨e1, e2⟩ => ⟨e1, congrArg some e2⟩⟩
  | t l =>
    cases d with
    | tup xs => exact ⟨h.1, rfl, _, h.2, fun y S3 ⟨e1, e2⟩ => ⟨e1, congrArg some e2⟩⟩
    | _ => exact False.elim h
theorem dcP_of {t : Bool} {wi : WI} {nt : NT} {tt : WT} {wk we : WE} {vs : List Nat} {sd : SD} {S : SO} {Q : KD} (items : List D) (f : D → Option (D × D)) (hi : wi sd S fun J S1 => J = ⟨items, fun _ => True⟩ ∧ S1 = S) (hl : items.length ≤ 100000)
    (hf : ∀ d ∈ items, ∀ S', Ext S S' → putNT nt d (wipeD sd vs) fun sd2 => tt sd2 S' fun b S2 => S2 = S' ∧ if b = true then up wk sd2 S' fun k S3 => S3 = S' ∧ keyOk t k ∧ up we sd2 S' fun y S4 => S4 = S' ∧ f d = some (k, y) else f d = none)
    (hq : Q (.dic t (dputsL [] (items.filterMap f))) S) : DcP t wi nt tt wk we vs sd S Q :=
  ⟨⟨_, hi, fun J S1 ⟨e1, e2⟩ => by
    subst e1 e2
    exact ⟨fun _ _ => trivial, hl, f, hf, hq⟩⟩⟩
theorem ifY {b : Bool} {A B : Prop} (e : b = true) (h : A) : if b = true then A else B := by
  rw [if_pos e]
  exact h
theorem isY {b : Bool} {Q : Bool → SO → Prop} {S : SO} (e : b = true) (h : Q true S) : IsB Q (.bl b) S := by
  rw [e]
  exact ⟨h⟩
theorem isN {b : Bool} {Q : Bool → SO → Prop} {S : SO} (e : b = false) (h : Q false S) : IsB Q (.bl b) S := by
  rw [e]
  exact ⟨h⟩
theorem isC {b : Bool} {Q : Bool → SO → Prop} {S : SO} (h1 : b = true → Q true S) (h2 : b = false → Q false S) : IsB Q (.bl b) S := by
  cases b with
  | true => exact ⟨h1 rfl⟩
  | false => exact ⟨h2 rfl⟩
theorem lez {n m : Nat} (h : Nat.ble n m = true) : n ≤ m := Nat.le_of_ble_eq_true h
theorem upI {we : WE} {sd : SD} {S : SO} {Q : KD} (h : we sd S Q) : up we sd S Q := ⟨Q, h, fun _ _ q => q⟩
theorem cl {Q : KD} {d : D} {S : SO} (h : Q d S) : Cl Q d S := .of h
theorem u65 {k : Nat} {A : Around} (r : Room k A) : A.units + 65 < cLine := by have := r.un; omega
section
variable {X : Cx} {x : Str} {pos : Pos}
theorem de_gS {z : Str} {t : Tok} (hm : X.mg x = some (.str z t)) (hg : Gl X x := by rfl) (hd : (x == ("__debug__" : Str)) = false := by decide) : DE X (.Name x pos) (wC (.str z)) := de_glob (v := .str z) hg hm ⟨t, rfl⟩ (fun _ _ _ => rfl) hd
theorem de_gI {z : Int} {t : Tok} (hm : X.mg x = some (.int z t)) (hg : Gl X x := by rfl) (hd : (x == ("__debug__" : Str)) = false := by decide) : DE X (.Name x pos) (wC (.int z)) := de_glob (v := .int z) hg hm ⟨t, rfl⟩ (fun _ _ _ => rfl) hd
theorem de_gC {a : Addr} (hm : X.mg x = some (.ref a)) (hg : Gl X x := by rfl) (hd : (x == ("__debug__" : Str)) = false := by decide) : DE X (.Name x pos) (wC (.obj a)) := de_glob (v := .ref a) hg hm rfl (fun _ _ _ => rfl) hd
theorem de_bT {T : String} (hm : X.mg x = none) (hv : bootBuiltins x = some (.type T)) (hg : Gl X x := by rfl) (hn : x ≠ "__name__" := by decide) (hd : (x == ("__debug__" : Str)) = false := by decide) : DE X (.Name x pos) (wC (.ty T)) := de_bltn (v := .ty T) hg hm hv rfl (fun _ _ _ => rfl) hn hd
end
theorem kit1_of {K : PySem.W.Frag} (C : Addr) : PySem.W.kitOne K (.ref C) (.ref C) = some true := by
  unfold PySem.W.kitOne
  rw [if_pos (by simp)]
theorem kit_own {K : PySem.W.Frag} {C : Addr} {z : ClassData} {n : String} (h1 : PySem.W.clsIn K C = some z) (h2 : PySem.W.typeIn K (.ref C) = some (.type "type")) {b : Bool} (h3 : PySem.W.subIn K (.type n) (.ref C) = some b) : PySem.W.kitOne K (.type n) (.ref C) = some b := by
  unfold PySem.W.kitOne
  rw [if_neg (by simp)]
  show (if ((PySem.W.clsIn K C).isSome && PySem.W.typeIn K (.ref C) == some (.type "type")) = true then PySem.W.subIn K (.type n) (.ref C) else none) = _
  rw [h1, h2, if_pos (by simp)]
  exact h3
theorem kit0_of {K : PySem.W.Frag} {C : Addr} {z : ClassData} (h1 : PySem.W.clsIn K C = some z) (h2 : PySem.W.typeIn K (.ref C) = some (.type "type")) (a0 : PySem.W.subIn K (.type "NoneType") (.ref C) = some false) (a1 : PySem.W.subIn K (.type "bool") (.ref C) = some false) (a2 : PySem.W.subIn K (.type "int") (.ref C) = some false)
    (a3 : PySem.W.subIn K (.type "str") (.ref C) = some false) (a4 : PySem.W.subIn K (.type "tuple") (.ref C) = some false) (a5 : PySem.W.subIn K (.type "list") (.ref C) = some false) (a6 : PySem.W.subIn K (.type "dict") (.ref C) = some false) : ∀ n ∈ tyNames, PySem.W.kitOne K (.type n) (.ref C) = some false := by
  intro n hn
  simp only [tyNames, List.mem_cons, List.not_mem_nil, or_false] at hn
  rcases hn with rfl | rfl | rfl | rfl | rfl | rfl | rfl
  · exact kit_own h1 h2 a0
  · exact kit_own h1 h2 a1
  · exact kit_own h1 h2 a2
  · exact kit_own h1 h2 a3
  · exact kit_own h1 h2 a4
  · exact kit_own h1 h2 a5
  · exact kit_own h1 h2 a6
end L2.DL

/-! DL16: own comparisons, join -/
namespace L2.DL
open PySem PySem.Spec PyProof.Rows
section
variable {X : Cx} {k : Nat} {g C : Addr} {fd : FuncData} {ps : List Str} {dsp : DSp}
/-- sep.join(texts) -/
def wJoin (ws wx : WE) : WE := fun sd S Q => ws sd S fun a S1 => (∃ z, a = .str z) ∧ wx sd S1 fun d S2 => ∃ (z : Str) (ys : List Str), a = .str z ∧ seqX S2 d = some (ys.map D.str) ∧ (ys.map (·.length)).sum + ys.length * z.length ≤ 16777216 ∧ Q (.str (Txt.join z ys)) S2
theorem de_join {o e : Expr} {wo we : WE} {apos pos : Pos} (ho : DE X o wo) (he : DE X e we) (hs : starEach [e] X.env = [(false, eval e X.env)] := by rfl) (hbase : attributeBase o "join" X.env (eval o X.env) = eval o X.env := by rfl) (hline : (apos.endLine == pos.line) = true := by rfl) :
    DE X (.Call (.Attribute o "join" apos) [e] [] pos) (wJoin wo we) := by
  refine pe_imp (pe_join ho he hs hbase hline) fun σ H Q ⟨sd, S, Q0, st, q, an⟩ => ⟨sd, S, _, st, q, fun d S1 v H1 ⟨⟨z, ez⟩, q1⟩ n1 s1 r1 => ?_⟩
  subst ez
  have ev : v = .str z := r1
  subst ev
  refine ⟨⟨z, rfl⟩, sd, S1, _, st.nx n1 s1, q1, fun d S2 u H2 ⟨z', ys, e1, e2, e3, q2⟩ n2 s2 r2 => ?_⟩
  cases e1
  obtain ⟨a, vs, rfl, hq, rv⟩ := seqX_at s2 r2 e2
  have := rels_strs rv
  subst this
  exact ⟨z, a, ys, rfl, rfl, hq, e3, an _ _ _ _ q2 (n1.trans n2) s2 rfl⟩
end
end L2.DL

/-! DL17: starred items, tuples displayed and known to have no dict -/
namespace L2.DL
open PySem PySem.Spec PyProof.Rows
section
variable {X : Cx} {e : Expr} {es : List Expr} {we : WE} {t : WA} {p pos : Pos}
def wStar (we : WE) (t : WA) : WA := fun sd S Q => we sd S fun d S1 => ∃ xs, seqX S1 d = some xs ∧ t sd S1 fun ys S2 => Q (xs ++ ys) S2
theorem da_star (he : DE X e we) (hr : DA X es t) (hs : starEach (.Starred e p :: es) X.env = (true, eval e X.env) :: starEach es X.env := by rfl) : DA X (.Starred e p :: es) (wStar we t) :=
  pa_imp (StX.pa_star he hr hs) fun σ H Q ⟨sd, S, Q0, st, q, an⟩ => ⟨sd, S, _, st, q, fun d S1 v H1 ⟨xs, e1, q1⟩ n1 s1 r1 => by
    obtain ⟨a, vs, rfl, hq, rv⟩ := seqX_at s1 r1 e1
    exact ⟨a, vs, rfl, hq.symm, sd, S1, _, st.nx n1 s1, q1, fun ys S2 us H2 q2 n2 s2 r2 => an _ _ _ _ q2 (n1.trans n2) s2 (Rels.app (Rels.nx n2 _ _ rv) r2)⟩⟩
def wTupF (t : WA) : WE := fun sd S Q => t sd S fun xs S1 => xs.length ≤ 1000000 ∧ Q (.tf xs) S1
theorem de_tupF {x1} (h : DA X es t) : DE X (.Tuple es x1 pos) (wTupF t) := by
  refine ⟨fun pins s σ H Q I ⟨sd, S, Q0, st, q, an⟩ => ?_⟩
  refine wpAny_Tuple_spliced (thn (h.run pos pins s σ H (fun vs H1 => ∃ xs S1, xs.length ≤ 1000000 ∧ Nx S H S1 H1 ∧ SRel X.K S1 H1 ∧ Rels X.K S1 H1 xs vs ∧ Q0 (.tf xs) S1) I ⟨sd, S, _, st, q, fun xs S1 vs H1 ⟨z, q1⟩ n1 s1 r1 => ⟨xs, S1, z, n1, s1, r1, q1⟩⟩)
    fun us s1 ⟨vs, H1, I1, r, xs, S1, z, n1, s1', r1, q1⟩ => ?_)
  have hz : us.length ≤ sizeLine := by rw [← r.length, ← r1.length]; exact le_line z
  refine ⟨hz, ?_⟩
  have hf : H1 s1.heap.objs.size = none := I1.hok.fresh (Nat.le_refl _)
  have I2 : Inv X pins σ (upd H1 s1.heap.objs.size (.frz { cls := .type "tuple", data := .seq us.toArray } (.tup vs))) { s1 with heap := s1.heap.push { cls := .type "tuple", data := .seq us.toArray } } :=
    I1.laid (t' := s1.toks) (fun b o e => Heap.get?_push_of_some _ e) (Nat.le_refl _) ⟨Heap.get?_push_size _ rfl, by rw [r.length]; exact hz, us, r, IsTup.new _ _⟩
  exact ⟨.ref s1.heap.objs.size, _, I2, rfl, an _ _ _ _ q1 (n1.trans (nx_new hf)) (s1'.new hf) ⟨_, vs, rfl, ⟨s1'.free hf, _, upd_same, rfl, rfl⟩, r1.nx (nx_new hf)⟩⟩
end
end L2.DL

/-! DL18: len, str, repr of own instances -/
namespace L2.DL
open PySem PySem.Spec PyProof.Rows
section
variable {X : Cx} {CX : CXT} {k : Nat} {g C : Addr} {fd : FuncData} {ps : List Str} {dsp : DSp}
theorem runG_at {A : Around} {sp : Sp} {E : XK} {pins : List (Addr × Obj)} {σ : St} {H : Hp} {s : Shared} {Q : VK} {args : Args} {us : List Value} {vs : List V} (F : FnG X.prog X.w X.K X.mg X.base CX k g fd ps sp) (hr : Room k A) (gd : A.guards = some [])
    (e0 : Env0 X.prog X.w X.K X.mg X.base A X.stack s H) (hx : Passes CX X E) (I : Inv X pins σ H s) (hb : BindsTo s fd args (ps.zip us)) (r : Vals vs us) (h : sp vs H Q E) : wpAny (model X.prog X.w) A (call (.ref g) args.pos args.kw) (EP X pins σ Q) X.xe s := by
  refine wpAny_call (codeAny_mono (F.go A X.stack s H args us vs Q E hr gd e0 hb r h) fun rs s' hq => ?_)
  have z := CE.call I hx hq
  cases rs with
  | error er => exact z
  | ok fl =>
    cases fl with
    | ret u => exact z
    | next => exact z.elim
    | brk => exact z.elim
    | cont => exact z.elim
/-- the special method of an own instance, called a frame or two below -/
theorem run_own {A : Around} {pins : List (Addr × Obj)} {σ : St} {H : Hp} {s : Shared} {Q : VK} {S : SO} {Q0 : KD} {d : D} {a : Addr} (F : FnD X.prog X.w X.K X.mg X.base k g fd ps dsp) (hr : Room k A) (gd : A.guards = some []) (hb : Binds X.K fd ps [])
    (e0 : Env0 X.prog X.w X.K X.mg X.base A X.stack s H) (I : Inv X pins σ H s) (sr : SRel X.K S H) (r1 : Rel X.K S H d (.ref a)) (q : dsp [d] S Q0 NoE) (an : Ans X.K S H Q0 Q) : wpAny (model X.prog X.w) A (call (.ref g) [.ref a]) (EP X pins σ Q) X.xe s := by
  have h : liftSp X.K dsp [V.ref a] H Q E0 := ⟨[d], S, Q0, NoE, sr, ⟨_, _, rfl, r1, rfl⟩, q, an, noE_ans⟩
  have z := hb s [.ref a] I.kIn (by rw [List.append_nil] at *; exact F.len _ _ _ _ h)
  exact runG_at (args := ⟨[.ref a], []⟩) (us := [.ref a]) (vs := [V.ref a]) F hr gd e0 pass0 I z (.cons rfl .nil) h
def cLenO (C : Addr) (dsp : DSp) : WL := fun xs S Q => one xs fun x => (∃ fs, InsD C x S fs) ∧ dsp [x] S (fun d S' => ∃ n : Nat, d = .int n ∧ n < 2 ^ 62 ∧ Q d S') NoE
theorem dc_lenO (hs : PySem.W.findIn X.K (.ref C) "__len__" = some (some (.ref g))) (hf : PySem.W.isFn X.K (.ref g) = true) (F : FnD X.prog X.w X.K X.mg X.base k g fd ps dsp) (hr : Room (k + 1) X.A) (gd : X.A.guards = some []) (hb : Binds X.K fd ps []) :
    DC X (.builtin "len") (cLenO C dsp) := by
  intro pins s σ H xs us Q I r ⟨ds, S, Q0, sr, rs, q, an⟩
  obtain ⟨x, rfl, ⟨fx, ix⟩, q⟩ := one_of q
  obtain ⟨v, rfl, rv⟩ := rs.v1
  obtain ⟨a, ax, lx, rfl, hx, _⟩ := ix.at sr rv
  obtain ⟨u, rfl, ru⟩ := vals1 r
  cases (show u = Value.ref a from ru)
  obtain ⟨mA, O, _⟩ := ins_get I.hok hx
  obtain ⟨od, J, _⟩ := O.look
  obtain ⟨m, hF⟩ := I.fr
  refine PySem.W.len_K hF I.ok.mod.kin J hs hf ?_
  refine wpAny_mono (run_own (Q := fun v H' => ∃ n : Nat, v = .int n ∧ n < 2 ^ 62 ∧ Q v H') F hr.in1 gd hb I.env0.in1 I sr rv q (fun d S' v H' ⟨n, e, hn, q'⟩ n' s' r' => ?_)) (fun w s' z => ?_) fun _ _ x => x
  · subst e
    have ev : v = .int n := r'
    subst ev
    exact ⟨n, rfl, hn, an _ _ _ _ q' n' s' rfl⟩
  · obtain ⟨z', H', I', rz, n, rfl, hn, qz⟩ := z
    obtain ⟨t, rfl⟩ := (show ∃ t, w = Value.int n t from rz)
    exact ⟨⟨by omega, by omega⟩, .int n, H', I'.tok _, ⟨_, rfl⟩, qz⟩
def cStrO (C : Addr) (dsp : DSp) : WL := fun xs S Q => one xs fun x => (∃ fs, InsD C x S fs) ∧ dsp [x] S (fun d S' => ∃ z : Str, d = .str z ∧ Q d S') NoE
theorem dc_strO (hs : PySem.W.findIn X.K (.ref C) "__str__" = some (some (.ref g))) (hf : PySem.W.isFn X.K (.ref g) = true) (F : FnD X.prog X.w X.K X.mg X.base k g fd ps dsp) (hr : Room (k + 2) X.A) (gd : X.A.guards = some []) (hb : Binds X.K fd ps []) :
    DC X (.type "str") (cStrO C dsp) := by
  intro pins s σ H xs us Q I r ⟨ds, S, Q0, sr, rs, q, an⟩
  obtain ⟨x, rfl, ⟨fx, ix⟩, q⟩ := one_of q
  obtain ⟨v, rfl, rv⟩ := rs.v1
  obtain ⟨a, ax, lx, rfl, hx, _⟩ := ix.at sr rv
  obtain ⟨u, rfl, ru⟩ := vals1 r
  cases (show u = Value.ref a from ru)
  obtain ⟨mA, O, _⟩ := ins_get I.hok hx
  obtain ⟨od, J, _⟩ := O.look
  have hr2 : Room k X.A.in1.in1 := (show Room (k + 1) X.A.in1 from Room.in1 hr).in1
  refine PySem.W.kso_call hr2.units0 I.kIn J hs hf ?_
  refine wpAny_mono (run_own (Q := fun v H' => ∃ z : Str, v = .str z ∧ Q v H') F hr2 gd hb I.env0.in1.in1 I sr rv q (fun d S' v H' ⟨z, e, q'⟩ n' s' r' => ?_)) (fun w s' z => ?_) fun _ _ x => x
  · subst e
    have ev : v = .str z := r'
    subst ev
    exact ⟨z, rfl, an _ _ _ _ q' n' s' rfl⟩
  · obtain ⟨z', H', I', rz, n, rfl, qz⟩ := z
    obtain ⟨t, rfl⟩ := (show ∃ t, w = Value.str n t from rz)
    exact ⟨.str n, H', I', ⟨_, rfl⟩, qz⟩
end
end L2.DL

/-! DL19: t[::-1] of tuples and lists -/
namespace L2.DL
open PySem PySem.Spec PyProof.Rows
section
variable {prog : Program} {w : World} {A : Around} {E : Value → Shared → Prop} {s : Shared}
theorem adjust_rev (n : Nat) : Builtin.Slice.sliceAdjust none none (-1) (n : Int) = ((n : Int) - 1, -1) := by
  unfold Builtin.Slice.sliceAdjust
  rfl
theorem places_rev (n : Nat) : Builtin.Slice.slicePlaces ((n : Int) - 1) (-1) (-1) = n := by
  unfold Builtin.Slice.slicePlaces
  have h1 : ¬ (-1 : Int) > 0 := by omega
  simp only [h1, if_false]
  split
  · rename_i h
    have e : ((n : Int) - 1 - -1 - 1) / (- -1) + 1 = n := by
      rw [show (- -1 : Int) = 1 by decide, Int.ediv_one]
      omega
    first
      | omega
      | (rw [show (- -1 : Int) = 1 by decide, Int.ediv_one]; omega)
  · omega
theorem sliceApplied_rev {sl : Addr} {vs : Value} {n : Nat} {Q : Int × Int × Nat → Shared → Prop} (hs : s.heap.IsSliceOf sl .none .none vs) (ps : IsPart vs (some (-1)))
    (h : Q ((n : Int) - 1, -1, n) s) : wpAny (model prog w) A (Builtin.Slice.sliceApplied (.ref sl) (pure (n : Int))) Q E s := by
  obtain ⟨os, hos, hcs, hds⟩ := id hs
  unfold Builtin.Slice.sliceApplied Builtin.Slice.sliceFields
  refine wpAny_bind (wpAny_bind (wpAny_field hos hds (x := .none) rfl (wpAny_bind (wpAny_field hos hds (x := .none) rfl (wpAny_bind (wpAny_field hos hds (x := vs) rfl (wpAny_pure ?_)))))))
  refine wpAny_bind (HT.slicePart_ ps ?_)
  show wpAny _ _ (if ((-1 : Int) == 0) = true then _ else _) _ _ s
  rw [if_neg (by decide)]
  refine wpAny_bind (HT.slicePart_ .none (wpAny_bind (HT.slicePart_ .none (wpAny_bind (wpAny_pure ?_)))))
  show wpAny _ _ (match Builtin.Slice.sliceAdjust none none (-1) (n : Int) with | (lo, hi) => pure (lo, (-1 : Int), Builtin.Slice.slicePlaces lo hi (-1))) _ _ s
  rw [adjust_rev n]
  show wpAny _ _ (pure ((n : Int) - 1, (-1 : Int), Builtin.Slice.slicePlaces ((n : Int) - 1) (-1) (-1))) _ _ s
  rw [places_rev]
  exact wpAny_pure h
theorem pick_rev (xs : Array Value) : ((List.range xs.size).filterMap fun (m : Nat) => xs[(((xs.size : Int) - 1) + (m : Int) * (-1)).toNat]?).toArray = xs.toList.reverse.toArray := by
  have e : (List.range xs.size).filterMap (fun (m : Nat) => xs[(((xs.size : Int) - 1) + (m : Int) * (-1)).toNat]?) = ((List.range xs.size).map fun k => xs.size - 1 - k).filterMap (xs[·]?) := by
    rw [List.filterMap_map]
    congr 1
    funext m
    have : (((xs.size : Int) - 1) + (m : Int) * (-1)).toNat = xs.size - 1 - m := by omega
    show xs[_]? = xs[_]?
    rw [this]
  rw [e, PySem.W.krv_range, List.filterMap_reverse, PySem.W.krv_all]
theorem getItem_tuple_rev {t sl : Addr} {items : Array Value} {vs : Value} {Q : Value → Shared → Prop} (ht : IsTup s.heap t items) (hs : s.heap.IsSliceOf sl .none .none vs) (ps : IsPart vs (some (-1)))
    (h : Q (.ref s.heap.objs.size) { s with heap := s.heap.push { cls := .type "tuple", data := .seq items.toList.reverse.toArray } })
    (hsz : items.size ≤ sizeLine) : wpAny (model prog w) A (getItem (.ref t) (.ref sl)) Q E s := by
  have htake : sizeOk (.seq items.toList.reverse.toArray) := by
    show items.toList.reverse.toArray.size ≤ sizeLine
    rw [List.size_toArray, List.length_reverse, Array.length_toList]
    exact hsz
  obtain ⟨os, hos, hcs, hds⟩ := id hs
  have hTs : s.TypeIs (.ref sl) "slice" := ⟨os, hos, hcs⟩
  unfold getItem
  try with_reducible refine wpAny_holding ?_
  first | refine wpAny_bind (wpAny_pure ?_) | skip
  refine wpAny_bind (wpAny_sequenceKey ht.typeIs (by decide) ?_)
  refine wpAny_bind (wpAny_callSpecial?_slot (name := Str.ofString "__getitem__") ht.typeIs PyProof.Rows.slot_tuple_getitem
    (wpAny_call_entry PyProof.Rows.slot_tuple_getitem ht.typeIs entry_tuple_getitem ?_ (args_tuple_getitem _ _)))
  show wpAny _ _ (Builtin.Tuple.tupleItemsOf (.ref t) >>= _) _ _ s
  refine wpAny_bind (tupleItemsOf_ ht ?_)
  refine wpAny_bind (wpAny_typeOf hTs ?_)
  rw [if_pos (by decide)]
  refine wpAny_bind (sliceApplied_rev hs ps ?_)
  show wpAny _ _ (if (((items.size : Int) - 1) == 0 && (-1 : Int) == 1 && items.size == items.size) = true then _ else _) _ _ s
  have hno : ¬ (((((items.size : Int) - 1) == 0 && (-1 : Int) == 1) && items.size == items.size) = true) := by
    rw [show ((-1 : Int) == 1) = false by decide, Bool.and_false, Bool.false_and]
    exact Bool.false_ne_true
  rw [if_neg hno, pick_rev]
  first
    | exact wpAny_bind (m := Builtin.Tuple.tupleExact _) (wpAny_newObj_type (wpAny_pure ⟨_, rfl, wpAny_pure h⟩) htake)
    | exact wpAny_bind (m := Builtin.Tuple.tupleExact _) (wpAny_newObj_type (wpAny_bind (wpAny_pure (wpAny_pure ⟨_, rfl, wpAny_pure h⟩))) htake)
    | exact wpAny_bind (wpAny_bind (m := Builtin.Tuple.tupleExact _) (wpAny_newObj_type (wpAny_pure (wpAny_pure ⟨_, rfl, wpAny_pure h⟩)) htake))
    | exact wpAny_bind (wpAny_bind (m := Builtin.Tuple.tupleExact _) (wpAny_newObj_type (wpAny_pure ⟨_, rfl, wpAny_pure h⟩) htake))
end
section
variable {X : Cx}
/-- t[::-1] of a tuple -/
def wRevT (we : WE) : WE := fun sd S Q => we sd S fun d S1 => ∃ xs, (d = .tf xs ∨ d = .tup xs ∨ d = .kt xs) ∧ Q (.tf xs.reverse) S1
theorem revs {K : PySem.W.Frag} {S : SO} {H : Hp} : ∀ {xs : List D} {vs : List V}, Rels K S H xs vs → Rels K S H xs.reverse vs.reverse
  | [], vs, h => by
    have e : vs = [] := h
    subst e
    exact rfl
  | d :: ds, vs, h => by
    obtain ⟨v, r, rfl, h1, h2⟩ := h
    rw [List.reverse_cons, List.reverse_cons]
    exact Rels.app (revs h2) ⟨v, [], rfl, h1, rfl⟩
theorem de_revT {e : Expr} {we : WE} {k : Nat} {p1 p2 p3 pos : Pos} (he : DE X e we) : DE X (.Subscript e (.Slice none none (some (.UnaryOp .USub (.Constant (.int 1) k p1) p2)) p3) pos) (wRevT we) := by
  refine ⟨fun pins s σ H Q I ⟨sd, S, Q0, st, q, an⟩ => ?_⟩
  refine Subscript_ (thn (he.run pins s σ H (fun v H1 => ∃ a vs xs S1, v = .ref a ∧ SqT X.K H1 a vs ∧ Nx S H S1 H1 ∧ SRel X.K S1 H1 ∧ Rels X.K S1 H1 xs vs ∧ Q0 (.tf xs.reverse) S1) I ⟨sd, S, _, st, q, fun d S1 v H1 ⟨xs, hd, q1⟩ n1 s1 r1 => ?_⟩) fun v s1 ⟨x, H1, I1, r1, q1⟩ => ?_)
  · rcases hd with rfl | rfl | rfl
    · obtain ⟨a, vs, rfl, t, rv⟩ := r1
      exact ⟨a, vs, xs, S1, rfl, t.sq, n1, s1, rv, q1⟩
    · obtain ⟨a, vs, rfl, t, rv⟩ := r1
      exact ⟨a, vs, xs, S1, rfl, t.sq, n1, s1, rv, q1⟩
    · obtain ⟨a, vs, rfl, t, rv⟩ := r1
      exact ⟨a, vs, xs, S1, rfl, t.sq, n1, s1, rv, q1⟩
  obtain ⟨a, xs, ys, S1, ex, hx, n1, sr1, rv, q⟩ := q1
  subst ex
  cases r1
  have hst : PO X (some (.UnaryOp .USub (.Constant (.int 1) k p1) p2)) (tPart (tUn (rU fun i => .int (-i)) (tC (.int 1)))) := po_some (pe_un un_neg pe_int)
  refine wpAny_Slice (thn (po_none.run pins s1 σ H1 (fun o H2 => o = none ∧ H2 = H1) I1 ⟨rfl, rfl⟩) fun vl s2 ⟨l, H2, I2, pl, el, e2⟩ => ?_)
  subst el e2
  refine thn (po_none.run pins s2 σ H2 (fun o H3 => o = none ∧ H3 = H2) I2 ⟨rfl, rfl⟩) fun vu s3 ⟨u, H3, I3, pu, eu, e3⟩ => ?_
  subst eu e3
  refine thn (hst.run pins s3 σ H3 (fun o H4 => o = some (-1) ∧ H4 = H3) I3 ⟨1, rfl, -1, rfl, rfl, rfl⟩) fun vs s4 ⟨o, H4, I4, ps, eo, e4⟩ => ?_
  subst eo e4
  cases pl
  cases pu
  have I5 : Inv X pins σ H4 { s4 with heap := s4.heap.push { cls := .type "slice", data := .fields #[.none, .none, vs] } } := I4.kept (t' := s4.toks) fun b ob q => Heap.get?_push_of_some _ q
  obtain ⟨its, r, ht, hz⟩ := I5.tuple hx
  have hlen := r.length
  show wpAny (model X.prog X.w) X.A (subscriptTail e (.Slice none none (some (.UnaryOp .USub (.Constant (.int 1) k p1) p2)) p3) (.ref a) (.ref s4.heap.objs.size)) (EP X pins σ Q) X.xe { s4 with heap := s4.heap.push { cls := .type "slice", data := .fields #[.none, .none, vs] } }
  refine tail_any (ops := [.ref a, .ref s4.heap.objs.size]) ht.typeIs (PyProof.Rows.slot_tuple_getitem.lookup) ?_ (by with_unfolding_all rfl)
  refine getItem_tuple_rev ht (Heap.IsSliceOf.new _ .none .none vs) ps ?_ (by rw [List.size_toArray]; omega)
  have hf := I5.hok.fresh (Nat.le_refl _)
  have hz2 : xs.reverse.length ≤ sizeLine := by rw [List.length_reverse]; exact hz
  refine ⟨.ref _, _, I5.laid (t' := s4.toks) (o := .frz { cls := .type "tuple", data := .seq its.reverse.toArray } (.tup xs.reverse)) (fun b ob q => Heap.get?_push_of_some _ q) (Nat.le_refl _) ?_, rfl, an _ _ _ _ q (n1.trans (nx_new hf)) (sr1.new hf) ⟨_, xs.reverse, rfl, ⟨sr1.free hf, _, upd_same, rfl, rfl⟩, (revs rv).nx (nx_new hf)⟩⟩
  exact ⟨Heap.get?_push_size _ rfl, hz2, _, r.reverse, IsTup.new _ _⟩
end
end L2.DL

/-! DL20: list comprehensions with two for -/
namespace L2.DL
open PySem PySem.Spec PyProof.Rows
section
variable {X : Cx}
variable {elt tg iter tg1 iter1 : Expr} {ifs ifs1 : List Expr} {scope : Scope} {own : List (Str × Nat)} {pos : Pos} {wi wi1 : WI} {nt nt1 : NT} {tt tt1 : WT} {we : WE}
end
end L2.DL

/-! DL21: list.insert, list.pop() -/
namespace L2.DL
open PySem PySem.Spec PyProof.Rows
section
variable {X : Cx}
def mInsert : WM := fun d xs S Q => two2 xs fun k y => ∃ a ys, ∃ i : Nat, k = .int (i : Nat) ∧ d = .obj a ∧ S a = some (.lst ys) ∧ ys.length < 1000000 ∧ i < 1000000 ∧ Q .non (S.set a (.lst (ys.take i ++ [y] ++ ys.drop i)))
theorem dm_insert : DM X "list.insert" mInsert := by
  intro pins s σ H x xs v us Q I rx rs ⟨d, ys, S, Q0, sr, r1, r2, q, an⟩
  obtain ⟨k, y, rfl, a, zs, i, rfl, rfl, hS, hl, hi, q⟩ := two2_of q
  have r1' : x = .ref a := r1
  obtain ⟨v1, u, rfl, rk, ru⟩ := r2.two
  have e1 : v1 = .int (i : Nat) := rk
  subst e1
  obtain ⟨vs, hv, rv⟩ := sr a _ hS
  have n2 : Nx S H (S.set a (.lst (zs.take i ++ [y] ++ zs.drop i))) (upd H a (.lst (vs.take i ++ [u] ++ vs.drop i))) := nx_put hS
  refine mt_insert pins s σ H x _ v us Q I rx rs ⟨a, vs, i, u, r1', rfl, hv, by rw [← rv.length]; exact Nat.lt_of_lt_of_le hl (le_line (Nat.le_refl _)), by omega, by omega, ?_⟩
  rw [Int.toNat_natCast]
  exact an _ _ _ _ q n2 (srel_put sr n2 ⟨_, upd_same, (((rv.take i).app (.one ru)).app (rv.drop i)).nx n2⟩) rfl
end
end L2.DL

/-! DL22: readings answered step by step, each step a lemma that fits by its head alone -/
namespace L2.DL
open PySem PySem.Spec PyProof.Rows
abbrev NoS : SD → SO → Prop := fun _ _ => False
section
variable {n bk ct : SD → SO → Prop} {r : KD} {sd : SD} {S : SO} {Q : KD} {a b : WS} {we wa wb wc : WE} {t : WA} {o : Option D} {d x y : D} {i j : Int} {A B : Prop}
/-! statements -/
theorem xFn {w : WS} (h : w ⟨fun _ S' => Cl Q .non S', Cl Q, NoS, NoS⟩ sd S) : w (endsOf Q) sd S := h
theorem xSeq (h : a ⟨b ⟨n, r, bk, ct⟩, r, bk, ct⟩ sd S) : wSeq a b ⟨n, r, bk, ct⟩ sd S := h
theorem xNext (h : n sd S) : wNext ⟨n, r, bk, ct⟩ sd S := h
theorem xBreak (h : bk sd S) : wBreak ⟨n, r, bk, ct⟩ sd S := h
theorem xCont (h : ct sd S) : wCont ⟨n, r, bk, ct⟩ sd S := h
theorem xRet (h : we sd S r) : wRet we ⟨n, r, bk, ct⟩ sd S := h
theorem xRetN (h : r .non S) : wRetN ⟨n, r, bk, ct⟩ sd S := h
theorem xDrop (h : we sd S fun _ S1 => n sd S1) : wDrop we ⟨n, r, bk, ct⟩ sd S := h
theorem xIfS {c : WT} (h : c sd S fun k S1 => if k = true then a ⟨n, r, bk, ct⟩ sd S1 else b ⟨n, r, bk, ct⟩ sd S1) : wIfS c a b ⟨n, r, bk, ct⟩ sd S := h
theorem xAsg {g : WG} (h : we sd S fun d S1 => g d sd S1 n) : wAsg we g ⟨n, r, bk, ct⟩ sd S := h
/-! targets -/
section
variable {Qg : SD → SO → Prop} {ds : List D} {g : WG} {gs : WGs}
theorem g0 (h : Qg (some d :: sd) S) : gV 0 d (o :: sd) S Qg := h
theorem gSu {k : Nat} (h : gV k d sd S fun sd' S' => Qg (o :: sd') S') : gV (k + 1) d (o :: sd) S Qg := h
theorem gTup {k : Nat} (h : gs ds sd S Qg) (hl : ds.length = k := by with_unfolding_all rfl) : gT k gs (.tup ds) sd S Qg := ⟨hl, h⟩
theorem gCons (h : g d sd S fun sd1 S1 => gs ds sd1 S1 Qg) : gC g gs (d :: ds) sd S Qg := h
theorem gNil (h : Qg sd S) : gN [] sd S Qg := ⟨rfl, h⟩
end
/-! names, constants -/
theorem v0 (h : Q d S) : wV 0 (some d :: sd) S Q := h
theorem vS {k : Nat} (h : wV k sd S Q) : wV (k + 1) (o :: sd) S Q := by
  unfold wV at h ⊢
  rw [List.getElem?_cons_succ]
  exact h
theorem xC (h : Q d S) : wC d sd S Q := h
/-! operators -/
theorem xO {w : WO} (h : wa sd S fun x S1 => wb sd S1 fun y S2 => w x y S2 Q) : wO w wa wb sd S Q := h
theorem xU {w : WU} (h : wa sd S fun x S1 => w x S1 Q) : wU w wa sd S Q := h
theorem xCall {w : WL} (h : t sd S fun xs S1 => w xs S1 Q) : wCall w t sd S Q := h
section
variable {Qa : List D → SO → Prop}
theorem xNil (h : Qa [] S) : wNil sd S Qa := h
theorem xCons (h : we sd S fun x S1 => t sd S1 fun xs S2 => Qa (x :: xs) S2) : wCons we t sd S Qa := h
theorem xStar (h : we sd S fun d S1 => ∃ xs, seqX S1 d = some xs ∧ t sd S1 fun ys S2 => Qa (xs ++ ys) S2) : wStar we t sd S Qa := h
end
theorem xTup (h : t sd S fun xs S1 => xs.length ≤ 1000000 ∧ Q (.tup xs) S1) : wTup t sd S Q := h
theorem xTupF (h : t sd S fun xs S1 => xs.length ≤ 1000000 ∧ Q (.tf xs) S1) : wTupF t sd S Q := h
theorem xLst (h : t sd S fun xs S1 => xs.length ≤ 1000000 ∧ Q (.lst xs) S1) : wLst t sd S Q := h
theorem xNew (h : t sd S fun xs S1 => xs.length ≤ 1000000 ∧ ∀ p, S1 p = none → Q (.obj p) (S1.set p (.lst xs))) : wNew t sd S Q := h
theorem andL (ha : A) (hb : B) : A ∧ B := ⟨ha, hb⟩
/-! truths -/
section
variable {Qb : Bool → SO → Prop} {tt tu : WT}
theorem xB (h : wa sd S (isB Qb)) : wB wa sd S Qb := h
theorem xAnd (h : tt sd S fun k S1 => if k = true then tu sd S1 Qb else Qb false S1) : wAnd tt tu sd S Qb := h
theorem xOr (h : tt sd S fun k S1 => if k = true then Qb true S1 else tu sd S1 Qb) : wOr tt tu sd S Qb := h
theorem xNot (h : tt sd S fun k S1 => Qb (!k) S1) : wNot tt sd S Qb := h
theorem xAndV (h : wa sd S (isB fun k S1 => if k = true then wb sd S1 Q else Q (.bl false) S1)) : wAndV wa wb sd S Q := h
theorem xOrV (h : wa sd S (isB fun k S1 => if k = true then Q (.bl true) S1 else wb sd S1 Q)) : wOrV wa wb sd S Q := h
theorem xNotV (h : wa sd S (isB fun k S1 => Q (.bl (!k)) S1)) : wNotV wa sd S Q := h
theorem xIf {tt : WT} (h : tt sd S fun k S1 => if k = true then wa sd S1 Q else wb sd S1 Q) : wIf tt wa wb sd S Q := h
theorem xCh {w w' : WO} (h : wa sd S fun x S1 => wb sd S1 fun y S2 => w x y S2 (isB fun k S3 => if k = true then wc sd S3 fun u S4 => w' y u S4 Q else Q (.bl false) S3)) : wCh w w' wa wb wc sd S Q := h
theorem xYes (h : Qb true S) : wYes sd S Qb := h
theorem isT (h : Qb true S) : isB Qb (.bl true) S := ⟨h⟩
theorem isF (h : Qb false S) : isB Qb (.bl false) S := ⟨h⟩
theorem isT' (h : Qb true S) : IsB Qb (.bl true) S := ⟨h⟩
theorem isF' (h : Qb false S) : IsB Qb (.bl false) S := ⟨h⟩
theorem isD {P : Prop} [Decidable P] (h1 : P → Qb true S) (h2 : ¬ P → Qb false S) : isB Qb (.bl (decide P)) S := by
  by_cases h : P
  · rw [decide_eq_true h]
    exact ⟨h1 h⟩
  · rw [decide_eq_false h]
    exact ⟨h2 h⟩
theorem isND {P : Prop} [Decidable P] (h1 : P → Qb false S) (h2 : ¬ P → Qb true S) : isB Qb (.bl (!decide P)) S := by
  by_cases h : P
  · rw [decide_eq_true h]
    exact ⟨h1 h⟩
  · rw [decide_eq_false h]
    exact ⟨h2 h⟩
theorem isCB {c : Bool} (h1 : c = true → Qb true S) (h2 : c = false → Qb false S) : isB Qb (.bl c) S := isC h1 h2
theorem isYB {c : Bool} (e : c = true) (q : Qb true S) : isB Qb (.bl c) S := isY e q
theorem isNB {c : Bool} (e : c = false) (q : Qb false S) : isB Qb (.bl c) S := isN e q
theorem iT (h : A) : if true = true then A else B := by
  rw [if_pos rfl]
  exact h
theorem iF (h : B) : if false = true then A else B := by
  rw [if_neg Bool.false_ne_true]
  exact h
theorem iNT (h : B) : if (!true) = true then A else B := iF h
theorem iNF (h : A) : if (!false) = true then A else B := iT h
end
/-! ints -/
theorem iAdd (h : Q (.int (i + j)) S) : oAdd (.int i) (.int j) S Q := h
theorem iSub (h : Q (.int (i - j)) S) : oSub (.int i) (.int j) S Q := ⟨trivial, h⟩
theorem iAnd (h : Q (.int (Builtin.bitAnd i j)) S) : oAnd (.int i) (.int j) S Q := ⟨trivial, h⟩
theorem iOr (h : Q (.int (Builtin.bitOr i j)) S) : oOr (.int i) (.int j) S Q := ⟨trivial, h⟩
theorem iLt (h : Q (.bl (decide (i < j))) S) : oLt (.int i) (.int j) S Q := ⟨trivial, h⟩
theorem iLe (h : Q (.bl (decide (i ≤ j))) S) : oLe (.int i) (.int j) S Q := ⟨trivial, h⟩
theorem iGt (h : Q (.bl (decide (j < i))) S) : oGt (.int i) (.int j) S Q := ⟨trivial, h⟩
theorem iGe (h : Q (.bl (decide (j ≤ i))) S) : oGe (.int i) (.int j) S Q := ⟨trivial, h⟩
theorem iEq (h : Q (.bl (decide (i = j))) S) : oEq (.int i) (.int j) S Q := h
theorem iNe (h : Q (.bl (!decide (i = j))) S) : oNe (.int i) (.int j) S Q := h
theorem sEq {u v : Str} (h : Q (.bl (decide (u = v))) S) : oEq (.str u) (.str v) S Q := h
theorem sNe {u v : Str} (h : Q (.bl (!decide (u = v))) S) : oNe (.str u) (.str v) S Q := h
theorem iNeg (h : Q (.int (-i)) S) : oNeg (.int i) S Q := h
theorem isN1 (h : Q (.bl true) S) : oIsN .non .non S Q := ⟨rfl, h⟩
theorem isN2 (h : Q (.bl (isNon d)) S) : oIsN d .non S Q := ⟨rfl, h⟩
theorem noN2 (h : Q (.bl (!isNon d)) S) : oNotN d .non S Q := ⟨rfl, h⟩
/-! lengths -/
section
variable {k : Nat → Prop} {xs : List D} {α : Type} {f : α → D} {l : List α}
theorem xLen (h : lenD S x fun n => Q (.int (n : Nat)) S) : cLen [x] S Q := h
theorem lTupM (h : k l.length) : lenD S (.tup (l.map f)) k := len_seq rfl (by rw [List.length_map]; exact h)
theorem lTfM (h : k l.length) : lenD S (.tf (l.map f)) k := len_seq rfl (by rw [List.length_map]; exact h)
theorem lLstM (h : k l.length) : lenD S (.lst (l.map f)) k := len_seq rfl (by rw [List.length_map]; exact h)
theorem lSrcM (h : k l.length) : lenD S (.src (l.map f)) k := len_seq rfl (by rw [List.length_map]; exact h)
theorem lTup (h : k xs.length) : lenD S (.tup xs) k := len_seq rfl h
theorem lTf (h : k xs.length) : lenD S (.tf xs) k := len_seq rfl h
theorem lLst (h : k xs.length) : lenD S (.lst xs) k := len_seq rfl h
theorem lSrc (h : k xs.length) : lenD S (.src xs) k := len_seq rfl h
theorem lObj {p : Addr} (e : S p = some (.lst xs)) (h : k xs.length) : lenD S (.obj p) k := len_seq (show objL (S p) = _ by rw [e]; rfl) h
theorem lObjM {p : Addr} (e : S p = some (.lst (l.map f))) (h : k l.length) : lenD S (.obj p) k := lObj e (by rw [List.length_map]; exact h)
theorem lDic {t : Bool} {kvs : List (D × D)} (h : k kvs.length) : lenD S (.dic t kvs) k := ⟨.inr ⟨t, kvs, rfl, h⟩⟩
/-! all, any -/
theorem xAll {bs : List Bool} (h : Q (.bl (bs.all id)) S) : cAll [.lst (bs.map D.bl)] S Q := ⟨bs, rfl, h⟩
theorem xAllM {g : α → Bool} (h : Q (.bl (l.all g)) S) : cAll [.lst (l.map fun z => .bl (g z))] S Q := ⟨l.map g, by show some _ = some _; rw [List.map_map]; rfl, by show Q (.bl ((l.map g).all id)) S; rw [List.all_map]; exact h⟩
theorem xAnyM {g : α → Bool} (h : Q (.bl (l.any g)) S) : cAny [.lst (l.map fun z => .bl (g z))] S Q := ⟨l.map g, by show some _ = some _; rw [List.map_map]; rfl, by show Q (.bl ((l.map g).any id)) S; rw [List.any_map]; exact h⟩
end
/-! items by index -/
section
variable {xs : List D} {k : Nat} {α : Type} {f : α → D} {l : List α} {z : α}
theorem ixTf (e : atI xs i = some d) (h : Q d S) : oIx (.tf xs) (.int i) S Q := .inl ⟨xs, i, d, rfl, rfl, e, h⟩
theorem ixTup (e : atI xs i = some d) (h : Q d S) : oIx (.tup xs) (.int i) S Q := .inl ⟨xs, i, d, rfl, rfl, e, h⟩
theorem ixLst (e : atI xs i = some d) (h : Q d S) : oIx (.lst xs) (.int i) S Q := .inl ⟨xs, i, d, rfl, rfl, e, h⟩
theorem at0 {v : D} {vs : List D} : atI (v :: vs) 0 = some v := atI_nat (j := 0) rfl
theorem at1 {v u : D} {vs : List D} : atI (v :: u :: vs) 1 = some u := atI_nat (j := 1) rfl
theorem atM (e : l[k]? = some z) : atI (l.map f) ((k : Nat) : Int) = some (f z) := atI_nat (by rw [List.getElem?_map, e]; rfl)
end
/-! calls -/
theorem xFnC {sp : DSp} (h : t sd S fun xs S1 => sp xs S1 Q NoE) : wFn sp [] t sd S Q := by
  unfold wFn
  simp only [List.append_nil]
  exact h
/-! attributes, methods of instances -/
def FldD (C : Addr) (g : Str) (d : D) (S : SO) (Q : KD) : Prop := ∃ fs v, InsD C d S fs ∧ fs.lookup g = some v ∧ Q v S
theorem xFld {C : Addr} {g : Str} (h : we sd S fun d S1 => FldD C g d S1 Q) : wFld C g we sd S Q := h
def MthD (C : Addr) (m : Str) (d : D) (S : SO) (A : Prop) : Prop := (∃ fs, InsD C d S fs ∧ fs.lookup m = none) ∧ A
theorem xMth {C : Addr} {m : Str} {sp : DSp} (h : we sd S fun d S1 => MthD C m d S1 (t sd S1 fun xs S2 => sp (d :: xs) S2 Q NoE)) : wMeth C m sp [] we t sd S Q := by
  unfold wMeth
  simp only [List.append_nil]
  exact h
/-! what is walked -/
section
variable {R : ItD → SO → Prop} {Rs : List D → (SO → Prop) → Prop} {xs : List D}
theorem xSeqI (h : we sd S fun d S1 => seqD d S1 fun xs ok => R ⟨xs, ok⟩ S1) : wSeqI we sd S R := h
theorem sTup (h : Rs xs fun _ => True) : seqD (.tup xs) S Rs := h
theorem sTf (h : Rs xs fun _ => True) : seqD (.tf xs) S Rs := h
theorem sLst (h : Rs xs fun _ => True) : seqD (.lst xs) S Rs := h
theorem sSrc (h : Rs xs fun _ => True) : seqD (.src xs) S Rs := h
theorem xEnum (h : t sd S fun xs S1 => one xs fun d => seqD d S1 fun ys ok => R ⟨enumD ys, ok⟩ S1) : wEnum t sd S R := h
theorem one1 {k : D → Prop} (h : k d) : one [d] k := h
theorem xRng1 (h : t sd S fun xs S1 => int1 xs fun j => -(2 ^ 62) ≤ j ∧ j < 2 ^ 62 ∧ R ⟨rangeD 0 j, fun _ => True⟩ S1) : wRng1 t sd S R := h
theorem xRng2 (h : t sd S fun xs S1 => int2 xs fun i j => (-(2 ^ 62) ≤ i ∧ i < 2 ^ 62 ∧ -(2 ^ 62) ≤ j ∧ j < 2 ^ 62) ∧ R ⟨rangeD i j, fun _ => True⟩ S1) : wRng2 t sd S R := h
theorem int1' {k : Int → Prop} (h : k i) : int1 [.int i] k := h
theorem int2' {k : Int → Int → Prop} (h : k i j) : int2 [.int i, .int j] k := h
theorem rng1N {k : Nat} (hk : k ≤ 1000000) (h : R ⟨rangeD 0 (k : Nat), fun _ => True⟩ S) : -(2 ^ 62) ≤ ((k : Nat) : Int) ∧ ((k : Nat) : Int) < 2 ^ 62 ∧ R ⟨rangeD 0 (k : Nat), fun _ => True⟩ S := ⟨by omega, by omega, h⟩
theorem rangeN (k : Nat) : rangeD 0 ((k : Nat) : Int) = (List.range k).map fun i => .int ((i : Nat) : Int) := by
  unfold rangeD
  rw [show ((k : Int) - 0).toNat = k by omega]
  exact List.map_congr_left fun i _ => by rw [Int.zero_add]
end
/-! slices -/
theorem xSl {tl th : WP} (h : we sd S fun d S1 => tl sd S1 fun lo S2 => th sd S2 fun hi S3 => sliD d S3 lo hi Q) : wSl we tl th sd S Q := h
section
variable {Qo : Option Int → SO → Prop}
theorem pN (h : Qo none S) : pNone sd S Qo := h
theorem pS (h : we sd S (isI fun i S1 => Qo (some i) S1)) : pSome we sd S Qo := h
end
theorem isI1 {k : Int → SO → Prop} (h : k i S) : isI k (.int i) S := ⟨h⟩
section
variable {xs : List D} {lo hi : Option Int} {k l : Nat} {p : Addr}
theorem slTup (h : Q (.tup (cutD xs lo hi)) S) : sliD (.tup xs) S lo hi Q := h
theorem slSrc (h : Q (.lst (cutD xs lo hi)) S) : sliD (.src xs) S lo hi Q := h
theorem slLst (h : Q (.lst (cutD xs lo hi)) S) : sliD (.lst xs) S lo hi Q := ⟨xs, rfl, h⟩
theorem slObj (e : S p = some (.lst xs)) (h : Q (.lst (cutD xs lo hi)) S) : sliD (.obj p) S lo hi Q := ⟨xs, show objL (S p) = _ by rw [e]; rfl, h⟩
theorem sIxN (n d : Nat) : HT.sIx n d (some (k : Int)) = min k n := HT.sIx_nat n d k
theorem cutLo : cutD xs (some (k : Int)) none = xs.drop k := by
  unfold cutD
  rw [sIxN]
  show (xs.drop (min k xs.length)).take (xs.length - min k xs.length) = _
  by_cases h : k ≤ xs.length
  · rw [Nat.min_eq_left h, List.take_of_length_le (by rw [List.length_drop]; omega)]
  · rw [Nat.min_eq_right (by omega), List.drop_of_length_le (Nat.le_refl _), List.drop_of_length_le (by omega), List.take_nil]
theorem cutHi : cutD xs none (some (k : Int)) = xs.take k := by
  unfold cutD
  rw [sIxN]
  show (xs.drop 0).take (min k xs.length - 0) = _
  rw [List.drop_zero, Nat.sub_zero]
  by_cases h : k ≤ xs.length
  · rw [Nat.min_eq_left h]
  · rw [Nat.min_eq_right (by omega), List.take_of_length_le (Nat.le_refl _), List.take_of_length_le (by omega)]
theorem slTfHi (h : Q (.tup (xs.take k)) S) (hk : k < xs.length) : sliD (.tf xs) S none (some (k : Int)) Q := ⟨fun ⟨_, e⟩ => by rw [sIxN] at e; omega, by rw [cutHi]; exact h⟩
end
/-! isinstance -/
end
/-! assignments at once, methods of lists -/
section
variable {n bk ct : SD → SO → Prop} {r : KD} {sd : SD} {S : SO} {Q : KD} {we : WE} {t : WA} {d x y z : D} {p : Addr} {xs : List D} {A : Prop}
theorem xPar {i j : Nat} (h : t sd S fun xs S1 => two2 xs fun x y => gV i x sd S1 fun sd' S2 => gV j y sd' S2 n) : wPar i j t ⟨n, r, bk, ct⟩ sd S := h
theorem xPar3 {i j k : Nat} (h : t sd S fun xs S1 => three xs fun x y z => gV i x sd S1 fun sd' S2 => gV j y sd' S2 fun sd' S2 => gV k z sd' S2 n) : wPar3 i j k t ⟨n, r, bk, ct⟩ sd S := h
theorem two2' {k : D → D → Prop} (h : k x y) : two2 [x, y] k := h
theorem three' {k : D → D → D → Prop} (h : k x y z) : three [x, y, z] k := h
def BmD (T : String) (d : D) (S : SO) (A : Prop) : Prop := tyD T d S ∧ A
theorem xBM {T : String} {w : WM} (h : we sd S fun d S1 => BmD T d S1 (t sd S1 fun xs S2 => w d xs S2 Q)) : wBM T w we t sd S Q := h
theorem bmObj (e : S p = some (.lst xs)) (h : A) : BmD "list" (.obj p) S A := ⟨.inl ⟨rfl, xs, e⟩, h⟩
theorem bmLst (h : A) : BmD "list" (.lst xs) S A := ⟨rfl, h⟩
theorem bmSrc (h : A) : BmD "list" (.src xs) S A := ⟨rfl, h⟩
theorem apM {α : Type} {f : α → D} {l : List α} {z : α} (e : S p = some (.lst (l.map f))) (hl : l.length < 1000000) (h : Q .non (S.set p (.lst ((l ++ [z]).map f)))) : mAppend (.obj p) [f z] S Q := ⟨p, _, rfl, e, by rw [List.length_map]; exact hl, by rw [List.map_append] at h; exact h⟩
theorem tfL (h : Q (.tf xs) S) : cTupleF [.lst xs] S Q := ⟨xs, rfl, h⟩
theorem tuL (h : Q (.tup xs) S) : cTuple [.lst xs] S Q := ⟨xs, rfl, h⟩
theorem tuT (h : Q (.tup xs) S) : cTuple [.tup xs] S Q := h
theorem liS (e : seqX S d = some xs) (h : Q (.lst xs) S) : cList [d] S Q := ⟨xs, e, h⟩
end
/-! for loops over typed sources and states -/
section
variable {n bk ct : SD → SO → Prop} {r : KD} {sd : SD} {S : SO} {wi : WI} {g : WG} {b : WS} {α σ : Type}
def ForJ (g : WG) (b : WS) (n : SD → SO → Prop) (r : KD) (sd : SD) (J : ItD) (S1 : SO) : Prop := ∃ Pv : Nat → SD → SO → Prop, Pv 0 sd S1 ∧ (∀ i sd S, Pv i sd S → J.ok S) ∧
  (∀ i d sd S, J.items[i]? = some d → Pv i sd S → g d sd S fun sd' S' => b ⟨Pv (i + 1), r, n, Pv (i + 1)⟩ sd' S') ∧ (∀ sd S, Pv J.items.length sd S → n sd S)
theorem xFor (h : wi sd S fun J S1 => ForJ g b n r sd J S1) : wFor wi g b ⟨n, r, bk, ct⟩ sd S := ⟨h⟩
/-- what holds before turn i -/
def Turn (st : σ → SD) (so : σ → SO) (Iv : Nat → σ → Prop) (i : Nat) : SD → SO → Prop := fun sd S => ∃ a, sd = st a ∧ S = so a ∧ Iv i a
theorem Turn.of {st : σ → SD} {so : σ → SO} {Iv : Nat → σ → Prop} {i : Nat} (a : σ) (hv : Iv i a) (h1 : sd = st a := by rfl) (h2 : S = so a := by rfl) : Turn st so Iv i sd S := ⟨a, h1, h2, hv⟩
/-- σ: what the state is made of; st, so: the slots, the objects; Iv: the invariant before turn i -/
theorem forJ {xs : List D} {ok : SO → Prop} (l : List α) (f : α → D) (st : σ → SD) (so : σ → SO) (Iv : Nat → σ → Prop) (a0 : σ) (h0 : Iv 0 a0)
    (ht : ∀ i z a, l[i]? = some z → Iv i a → g (f z) (st a) (so a) fun sd' S' => b ⟨Turn st so Iv (i + 1), r, n, Turn st so Iv (i + 1)⟩ sd' S')
    (he : ∀ a, Iv l.length a → n (st a) (so a)) (hs : sd = st a0 := by rfl) (hS : S = so a0 := by rfl) (hx : xs = l.map f := by rfl) (hok : ∀ i a, Iv i a → ok (so a) := by intros; trivial) : ForJ g b n r sd ⟨xs, ok⟩ S := by
  subst hx
  refine ⟨Turn st so Iv, ⟨a0, hs, hS, h0⟩, ?_, ?_, ?_⟩
  · rintro i sd S ⟨a, rfl, rfl, hv⟩
    exact hok i a hv
  · rintro i d sd S hd ⟨a, rfl, rfl, hv⟩
    rw [List.getElem?_map] at hd
    obtain ⟨z, hz, rfl⟩ := Option.map_eq_some_iff.mp hd
    exact ht i z a hz hv
  · rintro sd S ⟨a, rfl, rfl, hv⟩
    rw [List.length_map] at hv
    exact he a hv
theorem forR {m : Nat} {ok : SO → Prop} (st : σ → SD) (so : σ → SO) (Iv : Nat → σ → Prop) (a0 : σ) (h0 : Iv 0 a0)
    (ht : ∀ i a, i < m → Iv i a → g (.int (i : Nat)) (st a) (so a) fun sd' S' => b ⟨Turn st so Iv (i + 1), r, n, Turn st so Iv (i + 1)⟩ sd' S')
    (he : ∀ a, Iv m a → n (st a) (so a)) (hs : sd = st a0 := by rfl) (hS : S = so a0 := by rfl) (hok : ∀ i a, Iv i a → ok (so a) := by intros; trivial) : ForJ g b n r sd ⟨rangeD 0 (m : Nat), ok⟩ S := by
  rw [rangeN]
  refine forJ (List.range m) (fun i : Nat => .int (i : Nat)) st so Iv a0 h0 (fun i z a hz hv => ?_) (fun a hv => he a (by rwa [List.length_range] at hv)) hs hS rfl hok
  have hl := (List.getElem?_eq_some_iff.mp hz).1
  rw [List.length_range] at hl
  rw [List.getElem?_range hl] at hz
  cases hz
  exact ht i a hl hv
/-! list comprehensions over typed sources -/
variable {nt : NT} {tt : WT} {we wk : WE} {vs : List Nat} {Q : KD}
class InjD {α : Type} (f : α → D) : Prop where
  inj : ∀ a b, f a = f b → a = b
instance : InjD D.str := ⟨fun _ _ h => by injection h⟩
instance : InjD D.int := ⟨fun _ _ h => by injection h⟩
instance : InjD (fun d : D => d) := ⟨fun _ _ h => h⟩
instance : InjD (fun i : Nat => D.int (i : Nat)) := ⟨fun _ _ h => by injection h with h; omega⟩
instance {α β : Type} (f : α → D) (h : β → D) [InjD f] [InjD h] : InjD (fun z : α × β => D.tup [f z.1, h z.2]) := ⟨fun a b e => by
  injection e with e
  injection e with e1 e
  injection e with e2 e
  exact Prod.ext (InjD.inj (f := f) _ _ e1) (InjD.inj (f := h) _ _ e2)⟩
theorem map_inj {α : Type} {f : α → D} [InjD f] : ∀ {a b : List α}, a.map f = b.map f → a = b
  | [], [], _ => rfl
  | [], _ :: _, h => by cases h
  | _ :: _, [], h => by cases h
  | x :: xs, y :: ys, h => by
    rw [List.map_cons, List.map_cons] at h
    injection h with h1 h2
    rw [InjD.inj (f := f) _ _ h1, map_inj h2]
instance {α : Type} (f : α → D) [InjD f] : InjD (fun r : List α => D.tup (r.map f)) := ⟨fun a b e => by injection e with e; exact map_inj e⟩
instance {α : Type} (f : α → D) [InjD f] : InjD (fun r : List α => D.tf (r.map f)) := ⟨fun a b e => by injection e with e; exact map_inj e⟩
instance {α : Type} (f : α → D) [InjD f] : InjD (fun r : List α => D.lst (r.map f)) := ⟨fun a b e => by injection e with e; exact map_inj e⟩
open Classical in
noncomputable def backF {α : Type} (l : List α) (f : α → D) (out : α → Option D) : D → Option D := fun d => if h : ∃ z, z ∈ l ∧ f z = d then out h.choose else none
theorem backF_eq {α : Type} {l : List α} {f : α → D} [InjD f] {out : α → Option D} {z : α} (h : z ∈ l) : backF l f out (f z) = out z := by
  unfold backF
  have e : ∃ z', z' ∈ l ∧ f z' = f z := ⟨z, h, rfl⟩
  rw [dif_pos e, InjD.inj (f := f) _ _ e.choose_spec.2]
theorem backF_map {α : Type} {l : List α} {f : α → D} [InjD f] {out : α → Option D} : (l.map f).filterMap (backF l f out) = l.filterMap out := by
  rw [List.filterMap_map]
  have key : ∀ m : List α, (∀ z ∈ m, z ∈ l) → m.filterMap (backF l f out ∘ f) = m.filterMap out := fun m => by
    induction m with
    | nil => intro _; rfl
    | cons x m ih =>
      intro hm
      rw [List.filterMap_cons, List.filterMap_cons, ih fun z hz => hm z (List.mem_cons_of_mem _ hz)]
      simp only [Function.comp]
      rw [backF_eq (hm x (List.mem_cons_self ..))]
  exact key l fun _ h => h
theorem map_filterMap {α β : Type} {p : α → Bool} {out : α → β} : ∀ l : List α, l.filterMap (fun z => if p z = true then some (out z) else none) = (l.filter p).map out
  | [] => rfl
  | x :: xs => by
    rw [List.filterMap_cons, List.filter_cons]
    cases h : p x <;> simp [map_filterMap xs]
/-- the source: the items of l -/
structure Src {α : Type} (l : List α) (f : α → D) (S : SO) (J : ItD) (S1 : SO) : Prop where
  it : J.items = l.map f
  ok : ∀ S', Ext S1 S' → J.ok S'
  st : S1 = S
theorem srcT {l : List α} {f : α → D} : Src l f S ⟨l.map f, fun _ => True⟩ S := ⟨rfl, fun _ _ => trivial, rfl⟩
theorem srcX {l : List α} {f : α → D} {xs : List D} (h : xs = l.map f) : Src l f S ⟨xs, fun _ => True⟩ S := ⟨h, fun _ _ => trivial, rfl⟩
theorem putNT_mono {nt : NT} {d : D} {sd : SD} {k k' : SD → Prop} (h : putNT nt d sd k) (i : ∀ sd2, k sd2 → k' sd2) : putNT nt d sd k' := by
  cases nt with
  | n j => exact i _ h
  | t l =>
    cases d with
    | tup xs => exact ⟨h.1, i _ h.2⟩
    | _ => exact False.elim h
/-- with a test: what is asked behind the test's answer c; o: the new item, if any -/
def LcK (we : WE) (sd2 : SD) (S' : SO) (o : Option D) : Bool → SO → Prop := fun c S2 => S2 = S' ∧ if c = true then up we sd2 S' fun y S3 => S3 = S' ∧ o = some y else o = none
theorem lcKT {sd2 : SD} {S' : SO} {o : Option D} {x : D} (e : o = some x) (h : we sd2 S' fun y S3 => S3 = S' ∧ x = y) : LcK we sd2 S' o true S' :=
  ⟨rfl, by rw [if_pos rfl]; exact ⟨_, h, fun y S3 ⟨e1, e2⟩ => ⟨e1, by rw [e, e2]⟩⟩⟩
theorem lcKF {sd2 : SD} {S' : SO} {o : Option D} (e : o = none) : LcK we sd2 S' o false S' := ⟨rfl, by rw [if_neg Bool.false_ne_true]; exact e⟩
def opt {α : Type} (c : Bool) (x : α) : Option α := if c = true then some x else none
theorem opt_t {α : Type} {c : Bool} {x : α} (h : c = true) : opt c x = some x := if_pos h
theorem opt_f {α : Type} {c : Bool} {x : α} (h : c = false) : opt c x = none := if_neg (by rw [h]; exact Bool.false_ne_true)
/-- the test's answer is c -/
theorem lcKI {sd2 : SD} {S' : SO} {c : Bool} {x : D} (h : c = true → we sd2 S' fun y S3 => S3 = S' ∧ x = y) : isB (LcK we sd2 S' (opt c x)) (.bl c) S' := by
  refine isC (fun e => lcKT (opt_t e) (h e)) fun e => lcKF (opt_f e)
theorem lcO (l : List α) (f : α → D) [InjD f] (F : α → Option D) (hi : wi sd S (Src l f S)) (hl : l.length ≤ 1000000)
    (hf : ∀ z ∈ l, ∀ S', Ext S S' → putNT nt (f z) (wipeD sd vs) fun sd2 => tt sd2 S' (LcK we sd2 S' (F z))) (hq : Q (.lst (l.filterMap F)) S) : wLcP wi nt tt we vs sd S Q := by
  refine ⟨_, hi, ?_⟩
  rintro ⟨xs, ok⟩ S1 ⟨hx, hok, rfl⟩
  have hx' : xs = l.map f := hx
  subst hx'
  refine ⟨hok, by show (l.map f).length ≤ _; rw [List.length_map]; exact hl, backF l f F, fun d hd S' e => ?_, ?_⟩
  · obtain ⟨z, hz, rfl⟩ := List.mem_map.mp hd
    rw [backF_eq hz]
    exact hf z hz S' e
  · show Q (.lst ((l.map f).filterMap (backF l f F))) S1
    rw [backF_map]
    exact hq
theorem lcF (l : List α) (f : α → D) [InjD f] (p : α → Bool) (out : α → D) (hi : wi sd S (Src l f S)) (hl : l.length ≤ 1000000)
    (hf : ∀ z ∈ l, ∀ S', Ext S S' → putNT nt (f z) (wipeD sd vs) fun sd2 => tt sd2 S' (LcK we sd2 S' (opt (p z) (out z)))) (hq : Q (.lst ((l.filter p).map out)) S) : wLcP wi nt tt we vs sd S Q := by
  refine lcO l f (fun z => opt (p z) (out z)) hi hl hf ?_
  have e : l.filterMap (fun z => opt (p z) (out z)) = (l.filter p).map out := map_filterMap l
  rw [e]
  exact hq
theorem lcM (l : List α) (f : α → D) [InjD f] (out : α → D) (hi : wi sd S (Src l f S)) (hl : l.length ≤ 1000000)
    (hf : ∀ z ∈ l, ∀ S', Ext S S' → putNT nt (f z) (wipeD sd vs) fun sd2 => we sd2 S' fun y S3 => S3 = S' ∧ out z = y) (hq : Q (.lst (l.map out)) S) : wLcP wi nt wYes we vs sd S Q := by
  refine lcO l f (fun z => some (out z)) hi hl (fun z hz S' e => putNT_mono (hf z hz S' e) fun sd2 h => ?_) ?_
  · exact lcKT rfl h
  · rw [List.filterMap_eq_map']
    exact hq
/-- over enumerate -/
theorem enumD_map {α : Type} (l : List α) (f : α → D) : enumD (l.map f) = (l.zipIdx).map fun z => .tup [.int (z.2 : Nat), f z.1] := by
  refine List.ext_getElem? fun j => ?_
  unfold enumD
  rw [List.getElem?_mapIdx, List.getElem?_map, List.getElem?_map, List.getElem?_zipIdx]
  cases l[j]? with
  | none => rfl
  | some x => simp
instance {α : Type} (f : α → D) [InjD f] : InjD (fun z : α × Nat => D.tup [.int (z.2 : Nat), f z.1]) := ⟨fun a b e => by
  injection e with e
  injection e with e1 e
  injection e with e2 e
  injection e1 with e1
  exact Prod.ext (InjD.inj (f := f) _ _ e2) (by omega)⟩
theorem srcE {α : Type} {l : List α} {f : α → D} : Src l.zipIdx (fun z : α × Nat => D.tup [.int (z.2 : Nat), f z.1]) S ⟨enumD (l.map f), fun _ => True⟩ S := ⟨enumD_map l f, fun _ _ => trivial, rfl⟩
/-- dict comprehensions -/
theorem dcM {t : Bool} (l : List α) (f : α → D) [InjD f] (kf vf : α → D) (hi : wi sd S (Src l f S)) (hl : l.length ≤ 100000)
    (hf : ∀ z ∈ l, ∀ S', Ext S S' → putNT nt (f z) (wipeD sd vs) fun sd2 => (wk sd2 S' fun k S3 => S3 = S' ∧ kf z = k) ∧ keyOk t (kf z) ∧ we sd2 S' fun y S3 => S3 = S' ∧ vf z = y)
    (hq : Q (.dic t (dputsL [] (l.map fun z => (kf z, vf z)))) S) : wDcP t wi nt wYes wk we vs sd S Q := by
  obtain ⟨F, hF⟩ : ∃ F : D → Option (D × D), ∀ z ∈ l, F (f z) = some (kf z, vf z) := ⟨fun d => (backF l f (fun z => some (.tup [kf z, vf z])) d).bind fun d => match d with | .tup [a, b] => some (a, b) | _ => none, fun z hz => by
    show (backF l f (fun z => some (.tup [kf z, vf z])) (f z)).bind _ = _
    rw [backF_eq hz]
    rfl⟩
  refine ⟨_, hi, ?_⟩
  rintro ⟨xs, ok⟩ S1 ⟨hx, hok, rfl⟩
  have hx' : xs = l.map f := hx
  subst hx'
  refine ⟨hok, by show (l.map f).length ≤ _; rw [List.length_map]; exact hl, F, fun d hd S' e => ?_, ?_⟩
  · obtain ⟨z, hz, rfl⟩ := List.mem_map.mp hd
    rw [hF z hz]
    refine putNT_mono (hf z hz S' e) ?_
    rintro sd2 ⟨h1, h2, h3⟩
    refine ⟨rfl, ?_⟩
    rw [if_pos rfl]
    refine ⟨_, h1, ?_⟩
    rintro k S3 ⟨rfl, rfl⟩
    refine ⟨rfl, h2, _, h3, ?_⟩
    rintro y S4 ⟨rfl, rfl⟩
    exact ⟨rfl, rfl⟩
  · have e : (l.map f).filterMap F = l.map fun z => (kf z, vf z) := by
      have key : ∀ m : List α, (∀ z ∈ m, z ∈ l) → (m.map f).filterMap F = m.map fun z => (kf z, vf z) := fun m => by
        induction m with
        | nil => intro _; rfl
        | cons x m ih =>
          intro hm
          rw [List.map_cons, List.filterMap_cons, hF x (hm x (List.mem_cons_self ..)), ih fun z hz => hm z (List.mem_cons_of_mem _ hz)]
          rfl
      exact key l fun _ h => h
    show Q (.dic t (dputsL [] ((l.map f).filterMap F))) S1
    rw [e]
    exact hq
end
/-! equal to [] or () -/
theorem pyDs_map {α : Type} {f : α → D} {g : α → PyData} : ∀ {l : List α}, (∀ z ∈ l, pyD (f z) = some (g z)) → pyDs (l.map f) = some (l.map g)
  | [], _ => rfl
  | x :: xs, h => by
    show (pyD (f x)).bind (fun p => (pyDs (xs.map f)).map fun ps => p :: ps) = _
    rw [pyDs_map fun z hz => h z (List.mem_cons_of_mem _ hz), h x (List.mem_cons_self ..)]
    rfl
/-! the state: objects by their addresses -/
end L2.DL

/-! DL23: t[::-1] of tuples, the new one a tuple as any -/
namespace L2.DL
open PySem PySem.Spec PyProof.Rows
section
variable {X : Cx}
def RevD (d : D) (S : SO) (k : List D → Prop) : Prop := ∃ xs, (d = .tf xs ∨ d = .tup xs ∨ d = .kt xs) ∧ k xs
theorem revTup {xs : List D} {S : SO} {k : List D → Prop} (h : k xs) : RevD (.tup xs) S k := ⟨xs, .inr (.inl rfl), h⟩
theorem revTf {xs : List D} {S : SO} {k : List D → Prop} (h : k xs) : RevD (.tf xs) S k := ⟨xs, .inl rfl, h⟩
def wRevU (we : WE) : WE := fun sd S Q => we sd S fun d S1 => ∃ xs, (d = .tf xs ∨ d = .tup xs ∨ d = .kt xs) ∧ Q (.tup xs.reverse) S1
theorem xRevU {we : WE} {sd : SD} {S : SO} {Q : KD} (h : we sd S fun d S1 => RevD d S1 fun xs => Q (.tup xs.reverse) S1) : wRevU we sd S Q := h
end
end L2.DL

/-! DL24: values of any kind: == () of tuples of anything, {} that nobody changes, isinstance -/
namespace L2.DL
open PySem PySem.Spec PyProof.Rows
def asTup : D → Option (List D)
  | .tup xs => some xs
  | .tf xs => some xs
  | _ => none
def asStr : D → Option Str
  | .str x => some x
  | _ => none
theorem asTup_at {K : PySem.W.Frag} {S : SO} {H : Hp} {d : D} {v : V} {xs : List D} (r : Rel K S H d v) (e : asTup d = some xs) : ∃ a vs, v = .ref a ∧ SqT K H a vs ∧ Rels K S H xs vs := by
  cases d with
  | tup ys =>
    cases e
    obtain ⟨a, vs, h1, t, h2⟩ := r
    exact ⟨a, vs, h1, t.sq, h2⟩
  | tf ys =>
    cases e
    obtain ⟨a, vs, h1, t, h2⟩ := r
    exact ⟨a, vs, h1, t.sq, h2⟩
  | _ => cases e
section
variable {X : Cx}
/-- == () of a tuple -/
def oEqT : WO := fun x y S Q => ∃ xs, asTup x = some xs ∧ y = .tup [] ∧ Q (.bl xs.isEmpty) S
theorem eqT_core {pins : List (Addr × Obj)} {s : Shared} {σ : St} {H : Hp} {dx : D} {x y : V} {v u : Value} {S : SO} (I : Inv X pins σ H s) (rx : RelV x v) (ry : RelV y u) (r1 : Rel X.K S H dx x) (r2 : Rel X.K S H (.tup []) y) {xs : List D} (e : asTup dx = some xs) :
    ∃ a b items, v = .ref a ∧ u = .ref b ∧ s.heap.IsTuple a items ∧ s.heap.IsTuple b #[] ∧ (items.size == 0) = xs.isEmpty := by
  obtain ⟨a, vs, rfl, t, rv⟩ := asTup_at r1 e
  obtain ⟨b, us, rfl, t2, ru⟩ := r2
  have eu : us = [] := ru
  subst eu
  cases rx
  cases ry
  obtain ⟨its, r, ⟨o, ho, hc, n, hd⟩, hz⟩ := I.tuple t
  obtain ⟨its2, r3, ⟨o2, ho2, hc2, n2, hd2⟩, hz2⟩ := I.tuple t2.sq
  have e2 : its2 = [] := by cases r3; rfl
  subst e2
  refine ⟨a, b, its.toArray, rfl, rfl, ⟨o, ho, hc, n, hd⟩, ⟨o2, ho2, hc2, n2, hd2⟩, ?_⟩
  have h1 := rv.length
  have h2 := r.length
  rw [List.size_toArray]
  cases xs with
  | nil =>
    have : its.length = 0 := by rw [← h2, ← h1]; rfl
    rw [this]
    rfl
  | cons x xs =>
    rw [List.length_cons] at h1
    have : its.length ≠ 0 := by omega
    show (its.length == 0) = false
    simpa using this
theorem do_eqT (hu : X.A.units + 65 < cLine) : DO2 X (compareOp .Eq) oEqT := by
  intro pins s σ H x y v u Q I rx ry ⟨dx, dy, S, Q0, sr, r1, r2, q, an⟩
  obtain ⟨xs, e, rfl, q⟩ := q
  obtain ⟨a, b, items, rfl, rfl, h1, h2, h3⟩ := eqT_core I rx ry r1 r2 e
  refine SeqAt.eq_tupleAt (e := fun _ => true) h1 h2 (by omega) (fun j _ h => absurd h (Nat.not_lt_zero _)) ?_
  have e3 : ((List.range (min items.size (#[] : Array Value).size)).all (fun _ => true) && items.size == (#[] : Array Value).size) = xs.isEmpty := by
    rw [← h3]
    simp
  rw [e3]
  exact ⟨.bl _, H, I, rfl, ansd (.bl _) sr an q rfl⟩
def wDicF : WE := fun _ S Q => Q (.dic false []) S
end
theorem xDicF {sd : SD} {S : SO} {Q : KD} (h : Q (.dic false []) S) : wDicF sd S Q := h
section
variable {wi : WI} {nt : NT} {tt : WT} {we : WE} {vs : List Nat} {sd : SD} {S : SO} {Q : KD}
/-- a list comprehension whose element may change objects: what is asked where the source is known -/
def LcJ (nt : NT) (tt : WT) (we : WE) (vs : List Nat) (R : Addr → SO → Prop) (sd : SD) (J : ItD) (S1 : SO) : Prop := ∀ p, S1 p = none → ∃ Pv : Nat → SO → Prop, Pv 0 (S1.set p (.lst [])) ∧ (∀ i S, Pv i S → J.ok S) ∧
  (∀ i d S, J.items[i]? = some d → Pv i S → putNT nt d (wipeD sd vs) fun sd2 => upT tt sd2 S fun b S2 => if b = true then up we sd2 S2 fun y S3 => ∃ acc, S3 p = some (.lst acc) ∧ acc.length ≤ 1000000 ∧ Pv (i + 1) (S3.set p (.lst (acc ++ [y]))) else Pv (i + 1) S2) ∧
  (∀ S, Pv J.items.length S → R p S)
def FrzR (Q : KD) (p : Addr) (S' : SO) : Prop := ∃ acc, S' p = some (.lst acc) ∧ Q (.lst acc) (S'.del p)
theorem xLcF (h : wi sd S fun J S1 => LcJ nt tt we vs (FrzR Q) sd J S1) : wLcF wi nt tt we vs sd S Q := ⟨h⟩
theorem xLcN (h : wi sd S fun J S1 => LcJ nt tt we vs (fun p S' => Q (.obj p) S') sd J S1) : wLc wi nt tt we vs sd S Q := ⟨h⟩
end
/-- a value of any kind, each part of at most m items -/
inductive Any (m : Nat) : D → Prop
  | non : Any m .non
  | bl (b : Bool) : Any m (.bl b)
  | int (i : Int) : Any m (.int i)
  | str (x : Str) (h : PyData.canLay0 (.str x) = true ∧ x.length ≤ m) : Any m (.str x)
  | tup (xs : List D) (hl : xs.length ≤ m) (h : ∀ x ∈ xs, Any m x) : Any m (.tup xs)
  | tf (xs : List D) (hl : xs.length ≤ m) (h : ∀ x ∈ xs, Any m x) : Any m (.tf xs)
  | lst (xs : List D) (hl : xs.length ≤ m) (h : ∀ x ∈ xs, Any m x) : Any m (.lst xs)
  | dic (t : Bool) : Any m (.dic t [])
end L2.DL

/-! DL25: sorted(..) of lists and tuples of texts, of ints -/
namespace L2.DL
open PySem PySem.Spec PyProof.Rows
section
variable {prog : Program} {w : World} {A : Around} {E : Value → Shared → Prop} {s : Shared}
end
section
variable {X : Cx}
end
end L2.DL

/-! DL26: zip(t, u) of tuples -/
namespace L2.DL
open PySem PySem.Spec PyProof.Rows
def zipD (xs ys : List D) : List D := List.zipWith (fun x y => .tup [x, y]) xs ys
theorem zipD_len (xs ys : List D) : (zipD xs ys).length = min xs.length ys.length := List.length_zipWith
theorem zipD_get {xs ys : List D} {i : Nat} {d : D} (h : (zipD xs ys)[i]? = some d) : ∃ x y, xs[i]? = some x ∧ ys[i]? = some y ∧ d = .tup [x, y] := by
  unfold zipD at h
  rw [List.getElem?_zipWith] at h
  cases e1 : xs[i]? with
  | none => rw [e1] at h; cases h
  | some x =>
    cases e2 : ys[i]? with
    | none => rw [e1, e2] at h; cases h
    | some y =>
      rw [e1, e2] at h
      cases h
      exact ⟨x, y, rfl, rfl, rfl⟩
theorem new_pair2 {K : PySem.W.Frag} {S : SO} {H : Hp} {T : Addr} {x y : V} {d e : D} (s : SRel K S H) (hT : H T = none) (r1 : Rel K S H d x) (r2 : Rel K S H e y) : Nx S H S (upd H T (.tup [x, y])) ∧ SRel K S (upd H T (.tup [x, y])) ∧ Rel K S (upd H T (.tup [x, y])) (.tup [d, e]) (.ref T) :=
  ⟨nx_new hT, s.new hT, T, _, rfl, ⟨s.free hT, upd_same⟩, x, [y], rfl, Rel.nx (nx_new hT) _ _ r1, y, [], rfl, Rel.nx (nx_new hT) _ _ r2, rfl⟩
theorem jrel_zipT {K : PySem.W.Frag} {S0 : SO} {H0 : Hp} {a b : Addr} {xs ys : List D} (h : ∀ S H, Nx S0 H0 S H → ∃ vs, SqT K H a vs ∧ Rels K S H xs vs) (h' : ∀ S H, Nx S0 H0 S H → ∃ vs, SqT K H b vs ∧ Rels K S H ys vs) : JRel K S0 H0 ⟨zipD xs ys, fun _ => True⟩ (RZ.ItzT K a b) where
  go := fun i S H n s o hi => by
    obtain ⟨vs, q, r⟩ := h S H n
    obtain ⟨us, q', r'⟩ := h' S H n
    have hi' : i < min xs.length ys.length := by rw [← zipD_len]; exact hi
    obtain ⟨v, hv, _⟩ := r.get (List.getElem?_eq_getElem (show i < xs.length by omega))
    obtain ⟨u, hu, _⟩ := r'.get (List.getElem?_eq_getElem (show i < ys.length by omega))
    exact ⟨vs, us, v, u, q, q', hv, hu⟩
  stop := fun i S H n s o hi => by
    obtain ⟨vs, q, r⟩ := h S H n
    obtain ⟨us, q', r'⟩ := h' S H n
    have hi' : i = min xs.length ys.length := by rw [← zipD_len]; exact hi
    refine ⟨vs, us, q, q', ?_⟩
    rw [← r.length, ← r'.length]
    omega
  yld := fun i S H x H' d n s o hi y => by
    obtain ⟨vs, q, r⟩ := h S H n
    obtain ⟨us, q', r'⟩ := h' S H n
    obtain ⟨T, x1, y1, rfl, hT, rfl, k1, k2⟩ := y
    obtain ⟨dx, dy, g1, g2, rfl⟩ := zipD_get hi
    obtain ⟨v, hv, rv⟩ := r.get g1
    obtain ⟨u, hu, ru⟩ := r'.get g2
    have e1 := k1 vs q
    rw [hv] at e1
    cases e1
    have e2 := k2 us q'
    rw [hu] at e2
    cases e2
    exact new_pair2 s hT rv ru
def wZip (t : WA) : WI := fun sd S R => t sd S fun xs S1 => two2 xs fun d1 d2 => ∃ ys zs, asTup d1 = some ys ∧ asTup d2 = some zs ∧ R ⟨zipD ys zs, fun _ => True⟩ S1
theorem di_zip {X : Cx} {e e2 : Expr} {t : WA} {p pos tpos : Pos} {elts : List Expr} {kk : Nat} (hm : X.mg "zip" = none) (ha : DA X [e, e2] t) (hg : Gl X "zip" := by rfl) (hs : starEach [e, e2] X.env = (false, eval e X.env) :: starEach [e2] X.env := by rfl) (hpl : (backTo pos (starEach [e2] X.env)).any (·.1) = false := by rfl) :
    DI X (.Tuple elts kk tpos) (.Call (.Name "zip" p) [e, e2] [] pos) (wZip t) := by
  refine pi_imp (RZ.pi_zipA hg hm ha hs hpl) fun σ H R ⟨sd, S, R0, st, q, an⟩ => ⟨sd, S, _, st, q, fun xs S1 vs H1 q1 n1 s1 r1 => ?_⟩
  obtain ⟨d1, d2, rfl, ys, zs, e1, e2, q1⟩ := two2_of q1
  obtain ⟨v, u, rfl, rv, ru⟩ := r1.two
  obtain ⟨a, us, rfl, ta, ra⟩ := asTup_at rv e1
  obtain ⟨b, ws, rfl, tb, rb⟩ := asTup_at ru e2
  have per : ∀ {d : D} {a : Addr} {xs : List D}, Rel X.K S1 H1 d (.ref a) → asTup d = some xs → ∀ S H, Nx S1 H1 S H → ∃ vs, SqT X.K H a vs ∧ Rels X.K S H xs vs := fun r e S H n => by
    obtain ⟨a', vs, ea, t, r'⟩ := asTup_at (Rel.nx n _ _ r) e
    cases ea
    exact ⟨vs, t, r'⟩
  exact ⟨a, b, us, ws, rfl, .inr ⟨ta, tb, an _ _ _ _ q1 n1 s1 (jrel_zipT (per rv e1) (per ru e2))⟩⟩
/-! steps -/
section
variable {sd : SD} {S : SO} {R : ItD → SO → Prop} {t : WA} {xs ys : List D} {d e : D}
def ZipK (d1 d2 : D) (R : List D → Prop) : Prop := ∃ ys zs, asTup d1 = some ys ∧ asTup d2 = some zs ∧ R (zipD ys zs)
theorem xZip (h : t sd S fun xs S1 => two2 xs fun d1 d2 => ZipK d1 d2 fun l => R ⟨l, fun _ => True⟩ S1) : wZip t sd S R := h
theorem zipK {Rz : List D → Prop} (e1 : asTup d = some xs) (e2 : asTup e = some ys) (h : Rz (zipD xs ys)) : ZipK d e Rz := ⟨xs, ys, e1, e2, h⟩
theorem srcZ {α β : Type} {f : α → D} {g : β → D} {l : List α} {m : List β} {S : SO} : Src (l.zip m) (fun z : α × β => D.tup [f z.1, g z.2]) S ⟨zipD (l.map f) (m.map g), fun _ => True⟩ S := ⟨by
  unfold zipD
  rw [List.zipWith_map]
  show List.zipWith _ l m = (l.zip m).map _
  unfold List.zip
  rw [List.map_zipWith], fun _ _ => trivial, rfl⟩
end
end L2.DL

/-! DL27: f-strings, the truth of own instances, makings by keyword and with a default of the top, own == with values of any kind -/
namespace L2.DL
open PySem PySem.Spec PyProof.Rows
section
variable {X : Cx}
/-! ### f-strings -/
/-! ### the truth of an own instance that has __len__ -/
variable {CX : CXT} {k : Nat} {g f C : Addr} {fd : FuncData} {ps ks : List Str} {dsp : DSp}
/-! ### C(k = v, ..), all parameters by keyword -/
/-! ### C(..) with a default that the top has written -/
/-! ### own == with a value of any kind -/
end
end L2.DL

/-! DL28: list.pop(i), tuple.count(x) of texts -/
namespace L2.DL
open PySem PySem.Spec PyProof.Rows
section
variable {X : Cx}
def mPopAt : WM := fun d xs S Q => ∃ a ys y k, d = .obj a ∧ xs = [.int ((k : Nat) : Int)] ∧ S a = some (.lst ys) ∧ k < 1000000 ∧ ys[k]? = some y ∧ Q y (S.set a (.lst (ys.eraseIdx k)))
theorem Rels.erase {K : PySem.W.Frag} {S : SO} {H : Hp} : ∀ {ds : List D} {vs : List V} (k : Nat), Rels K S H ds vs → Rels K S H (ds.eraseIdx k) (vs.eraseIdx k)
  | [], _, k, h => by
    have e : _ = [] := h
    subst e
    rfl
  | d :: ds, _, 0, h => by
    obtain ⟨v, r, rfl, _, h2⟩ := h
    exact h2
  | d :: ds, _, k + 1, h => by
    obtain ⟨v, r, rfl, h1, h2⟩ := h
    exact ⟨v, r.eraseIdx k, rfl, h1, h2.erase k⟩
theorem dm_popAt : DM X "list.pop" mPopAt := by
  intro pins s σ H x xs v us Q I rx rs ⟨d, ys, S, Q0, sr, r1, r2, q, an⟩
  obtain ⟨a, zs, y, k, rfl, rfl, hS, hk, hy, q⟩ := q
  have r1' : x = .ref a := r1
  obtain ⟨w, rfl, rw'⟩ := r2.v1
  have e : w = .int ((k : Nat) : Int) := rw'
  subst e
  obtain ⟨vs, hv, rv⟩ := sr a _ hS
  obtain ⟨u, hu, ru⟩ := Rels.get rv hy
  have n2 : Nx S H (S.set a (.lst (zs.eraseIdx k))) (upd H a (.lst (vs.eraseIdx k))) := nx_put hS
  have hlen := rv.length
  have hkl : k < vs.length := (List.getElem?_eq_some_iff.mp hu).1
  refine mt_popAt pins s σ H x _ v us Q I rx rs ⟨a, vs, k, k, u, r1', rfl, hv, by omega, by omega, ?_, hu, ?_⟩
  · unfold seqIndex?
    have e1 : ¬ ((k : Int) < 0) := by omega
    have e2 : (decide (0 ≤ (k : Int)) && decide ((k : Int) < (vs.length : Nat))) = true := by
      rw [Bool.and_eq_true]
      exact ⟨decide_eq_true (by omega), decide_eq_true (by omega)⟩
    simp only [if_neg e1]
    rw [if_pos e2]
    simp
  exact an _ _ _ _ q n2 (srel_put sr n2 ⟨_, upd_same, (rv.erase k).nx n2⟩) (Rel.nx n2 _ _ ru)
/-- t.count(x) of texts -/
def mTCount : WM := fun d xs S Q => one xs fun y => ∃ (ys : List Str) (z : Str), seqX S d = some (ys.map D.str) ∧ (∃ zs, d = .tf zs) ∧ y = .str z ∧ Q (.int (ys.count z : Nat)) S
theorem count_eqU : ∀ {ys : List Str} {us : List Value} {z : Str}, Vals (ys.map V.str) us → us.countP (eqU (.str z)) = ys.count z
  | [], _, _, .nil => rfl
  | y :: ys, _, z, .cons r t => by
    obtain ⟨k, rfl⟩ := r
    rw [List.countP_cons, List.count_cons, count_eqU t]
    rfl
theorem mt_tcount : MtR X "tuple.count" (fun x xs H Q => ∃ p, ∃ ys : List Str, ∃ z, x = .ref p ∧ xs = [.str z] ∧ SqT X.K H p (ys.map V.str) ∧ Q (.int (ys.count z : Nat)) H) := by
  intro pins s σ H x xs v us Q I rx rs h
  obtain ⟨p, ys, z, rfl, rfl, hq, q⟩ := h
  cases rx
  obtain ⟨u, rfl, t, rfl⟩ := vals1 rs
  obtain ⟨its, r, pl, hz⟩ := I.tuple hq
  obtain ⟨⟨cls, dd, dt, sl⟩, ho, hc, n, hd⟩ := pl
  simp only at hc hd
  subst hc
  subst hd
  refine call_meets PySem.F.slot_tuple_count ⟨_, ho, rfl⟩ PySem.F.entry_tuple_count (PySem.F.args_tuple_count_2 _ _) (SeqAt.tuple_countAt p its.toArray n dd sl (.str z t) (eqU (.str z)))
    ⟨ho, fun w hw => mem_eqAt (x := .str z) ⟨t, rfl⟩ rfl r (flat_strs ys) w (by simpa using hw), ⟨.int (ys.count z : Nat), H, I.tok _, ⟨s.toks, ?_⟩, q⟩⟩
  show Value.int ((its.toArray.toList.countP (eqU (.str z)) : Nat) : Int) s.toks = Value.int ((ys.count z : Nat) : Int) s.toks
  rw [show its.toArray.toList = its from rfl, count_eqU r]
theorem dm_tcount : DM X "tuple.count" mTCount := by
  intro pins s σ H x xs v us Q I rx rs ⟨d, ys, S, Q0, sr, r1, r2, q, an⟩
  obtain ⟨y, rfl, zs, z, e, ⟨ws, ed⟩, rfl, q2⟩ := one_of q
  obtain ⟨u, rfl, ru⟩ := r2.v1
  have eu : u = .str z := ru
  subst eu ed
  cases e
  obtain ⟨a, vs, rfl, t, rv⟩ := r1
  have hq : SqT X.K H a (zs.map V.str) := rels_strs rv ▸ t.sq
  exact mt_tcount pins s σ H _ _ v us Q I rx rs ⟨a, zs, z, rfl, rfl, hq, ansd (.int _) sr an q2 rfl⟩
theorem erase_map' {α β : Type} (f : α → β) : ∀ (l : List α) (k : Nat), (l.map f).eraseIdx k = (l.eraseIdx k).map f
  | [], _ => rfl
  | _ :: _, 0 => rfl
  | x :: l, k + 1 => by
    show f x :: (l.map f).eraseIdx k = f x :: (l.eraseIdx k).map f
    rw [erase_map' f l k]
theorem popAtM {α : Type} {l : List α} {f : α → D} {S : SO} {Q : KD} {p : Addr} {k : Nat} {z : α} (e0 : S p = some (.lst (l.map f))) (e : l[k]? = some z) (hk : k < 1000000) (h : Q (f z) (S.set p (.lst ((l.eraseIdx k).map f)))) : mPopAt (.obj p) [.int ((k : Nat) : Int)] S Q :=
  ⟨p, _, _, k, rfl, rfl, e0, hk, by rw [List.getElem?_map, e]; rfl, by
    rw [erase_map']
    exact h⟩
end
end L2.DL

/-! DL29: xs[::-1] of lists, list(range(n)) -/
namespace L2.DL
open PySem PySem.Spec PyProof.Rows
section
variable {X : Cx}
def wRevL (we : WE) : WE := fun sd S Q => we sd S fun d S1 => ∃ xs, lstX S1 d = some xs ∧ Q (.lst xs.reverse) S1
theorem de_revL {e : Expr} {we : WE} {k : Nat} {p1 p2 p3 pos : Pos} (he : DE X e we) : DE X (.Subscript e (.Slice none none (some (.UnaryOp .USub (.Constant (.int 1) k p1) p2)) p3) pos) (wRevL we) :=
  pe_imp (pe_revL he) fun σ H Q ⟨sd, S, Q0, st, q, an⟩ => ⟨sd, S, _, st, q, fun d S1 v H1 ⟨xs, hx, q1⟩ n1 s1 r1 => by
    obtain ⟨a, vs, rfl, hq, rv⟩ := lstX_at s1 r1 hx
    exact ⟨a, vs, rfl, hq, fun p hp => an _ _ _ _ q1 (n1.trans (nx_new hp)) (s1.new hp) ⟨p, vs.reverse, rfl, s1.free hp, upd_same, (revs rv).nx (nx_new hp)⟩⟩⟩
theorem xRevL {we : WE} {sd : SD} {S : SO} {Q : KD} (h : we sd S fun d S1 => ∃ xs, lstX S1 d = some xs ∧ Q (.lst xs.reverse) S1) : wRevL we sd S Q := h
theorem rels_range {K : PySem.W.Frag} {S : SO} {H : Hp} (f : Nat → Int) : ∀ l : List Nat, Rels K S H (l.map fun i => .int (f i)) (l.map fun i => .int (f i))
  | [] => rfl
  | x :: l => ⟨_, _, rfl, rfl, rels_range f l⟩
end
end L2.DL

/-! DL30: a, b = a list -/
namespace L2.DL
open PySem PySem.Spec PyProof.Rows
section
variable {X : Cx} {pos : Pos}
def gTl (n : Nat) (r : WGs) : WG := fun d sd S Q => ∃ xs, lstX S d = some xs ∧ xs.length = n ∧ r xs sd S Q
theorem dg_lst {es : List Expr} {k : Nat} {r : WGs} {n : Nat} (hc : X.calm = true) (h : DGs X es r) (hn : (assignEach es X.env).length = n := by rfl) (hst : (assignEach es X.env).findIdx? (·.1) = none := by rfl) : DG X (.Tuple es k pos) (gTl n r) :=
  pg_imp (pg_lst hc h hn hst) fun v σ H Q ⟨d, sd, S, Q0, st, rr, q, an⟩ => by
    obtain ⟨xs, e, hl, q⟩ := q
    obtain ⟨a, vs, rfl, hq, rv⟩ := lstX_at st.s rr e
    exact ⟨a, vs, rfl, hq, by rw [← rv.length]; exact hl, xs, sd, S, Q0, st, rv, q, an⟩
theorem xGTl {n : Nat} {r : WGs} {xs : List D} {sd : SD} {S : SO} {Q : SD → SO → Prop} (h : r xs sd S Q) (hl : xs.length = n := by with_unfolding_all rfl) : gTl n r (.lst xs) sd S Q := ⟨xs, rfl, hl, h⟩
end
end L2.DL

/-! DL31: name = {k: v for ..}, stored within the comprehension -/
namespace L2.DL
open PySem PySem.Spec PyProof.Rows
section
variable {X : Cx}
end
end L2.DL

/-! DL32: str(int); what a class's == must know of other kinds -/
namespace L2.DL
open PySem PySem.Spec PyProof.Rows
section
variable {X : Cx}
end
end L2.DL

/-! DL33: + of tuples made here or there, neither empty -/
namespace L2.DL
open PySem PySem.Spec PyProof.Rows
section
variable {X : Cx}
end
end L2.DL

/-! DL34: a list of anything != [] -/
namespace L2.DL
open PySem PySem.Spec PyProof.Rows
section
variable {X : Cx}
def oNeL : WO := fun x y S Q => ∃ xs, lstX S x = some xs ∧ y = .lst [] ∧ Q (.bl (!xs.isEmpty)) S
theorem do_neL (hu : X.A.units + 65 < cLine) : DO2 X (compareOp .NotEq) oNeL := by
  intro pins s σ H x y v u Q I rx ry ⟨dx, dy, S, Q0, sr, r1, r2, q, an⟩
  obtain ⟨xs, hx, rfl, q⟩ := q
  obtain ⟨a, vs, rfl, hq, rv⟩ := lstX_at sr r1 hx
  obtain ⟨b, us, rfl, hn, hb, ru⟩ := r2
  have eu : us = [] := ru
  subst eu
  cases rx
  cases ry
  obtain ⟨its, r, pl, hz⟩ := I.list hq
  obtain ⟨its2, r3, pl2, hz2⟩ := I.list (xs := []) (.of hb)
  have e2 : its2 = [] := by cases r3; rfl
  subst e2
  have h1 := rv.length
  have h2 := r.length
  cases xs with
  | nil =>
    have h0 : its = [] := by
      have : its.length = 0 := by rw [← h2, ← h1]; rfl
      exact List.length_eq_zero_iff.mp this
    subst h0
    refine SeqAt.RcNeAt.lists (e := fun _ => true) pl.isList pl2.isList rfl (by omega) (fun j _ h => absurd h (Nat.not_lt_zero _)) X.prog X.w X.xe _ ?_
    exact ⟨.bl _, H, I, rfl, ansd (.bl _) sr an q rfl⟩
  | cons x xs =>
    rw [List.length_cons] at h1
    have hne : its.length ≠ 0 := by omega
    refine SeqAt.RcNeAt.lists_lengths pl.isList pl2.isList (by show (its.length != 0) = true; simpa using hne) (by omega) X.prog X.w X.xe _ ?_
    exact ⟨.bl _, H, I, rfl, ansd (.bl _) sr an q rfl⟩
end
end L2.DL

/-! DL35: list.remove(number); a statement behind which an object is frozen or forgotten -/
namespace L2.DL
open PySem PySem.Spec PyProof.Rows
section
variable {X : Cx}
/-! ### frozen, forgotten behind a statement -/
structure Wk (sd : SD) (S : SO) (sd0 : SD) (S0 : SO) : Prop where
  sub : ∀ a, S a = none → S0 a = none
  sta : ∀ K σ H, Sta K sd S σ H → Sta K sd0 S0 σ H
theorem Wk.refl (sd : SD) (S : SO) : Wk sd S sd S := ⟨fun _ h => h, fun _ _ _ h => h⟩
theorem Wk.trans {sd sd1 sd2 : SD} {S S1 S2 : SO} (a : Wk sd S sd1 S1) (b : Wk sd1 S1 sd2 S2) : Wk sd S sd2 S2 := ⟨fun x h => b.sub x (a.sub x h), fun K σ H h => b.sta K σ H (a.sta K σ H h)⟩
def SlF (p : Addr) (ds : List D) : SD → SD → Prop
  | [], [] => True
  | a :: as, b :: bs => (b = a ∨ b = none ∨ (a = some (.obj p) ∧ b = some (.lst ds))) ∧ SlF p ds as bs
  | _, _ => False
theorem SlF.len {p : Addr} {ds : List D} : ∀ {a b : SD}, SlF p ds a b → b.length = a.length
  | [], [], _ => rfl
  | _ :: as, _ :: bs, h => by rw [List.length_cons, List.length_cons, SlF.len h.2]
  | [], _ :: _, h => h.elim
  | _ :: _, [], h => h.elim
theorem SlF.get {p : Addr} {ds : List D} : ∀ {a b : SD} {i : Nat} {d : D}, SlF p ds a b → b[i]? = some (some d) → a[i]? = some (some d) ∨ (a[i]? = some (some (.obj p)) ∧ d = .lst ds)
  | [], [], i, d, _, e => by simp at e
  | x :: as, y :: bs, 0, d, h, e => by
    have e : y = some d := Option.some.inj e
    rcases h.1 with h1 | h1 | ⟨h1, h2⟩
    · exact .inl (by rw [← h1, e]; rfl)
    · rw [h1] at e
      cases e
    · rw [h2] at e
      cases e
      exact .inr ⟨by rw [h1]; rfl, rfl⟩
  | x :: as, y :: bs, i + 1, d, h, e => SlF.get (i := i) h.2 e
  | [], _ :: _, _, _, h, _ => h.elim
  | _ :: _, [], _, _, h, _ => h.elim
theorem Wk.lst {sd sd0 : SD} {S : SO} {p : Addr} {ds : List D} (h : S p = some (.lst ds)) (hs : SlF p ds sd sd0) : Wk sd S sd0 (S.del p) := by
  refine ⟨fun a e => by unfold SO.del; split; rfl; exact e, fun K σ H st => ?_⟩
  obtain ⟨n, s2, r2⟩ := frz_lst st.s h
  refine ⟨s2, hs.len.trans st.r.1, fun i d e => ?_⟩
  rcases hs.get e with e1 | ⟨e1, rfl⟩
  · obtain ⟨v, e', r⟩ := st.r.2 i d e1
    exact ⟨v, e', Rel.nx n _ _ r⟩
  · obtain ⟨v, e', r⟩ := st.r.2 i _ e1
    have er : v = .ref p := r
    subst er
    exact ⟨_, e', r2⟩
/-- a list that was new is frozen -/
theorem Wk.lstS {sd sd0 : SD} {S : SO} {p : Addr} {ds : List D} (h : S p = none) (hs : SlF p ds sd sd0) : Wk sd (S.set p (.lst ds)) sd0 S := by
  have z := Wk.lst (S := S.set p (.lst ds)) set_same hs
  rw [del_set h] at z
  exact z
/-- objects are forgotten -/
theorem Wk.to {sd : SD} {S S0 : SO} (h : ∀ a o, S0 a = some o → S a = some o) : Wk sd S sd S0 := by
  have sub : ∀ a, S a = none → S0 a = none := fun a e => by
    cases q : S0 a with
    | none => rfl
    | some o =>
      rw [h a o q] at e
      cases e
  refine ⟨sub, fun K σ H st => ?_⟩
  have n : Nx S H S0 H := fun a u h1 h2 => ⟨sub a h1, h2⟩
  exact st.nx n fun a o q => (st.s a o (h a o q)).nx n rfl
def ClS (n : SD → SO → Prop) : SD → SO → Prop := fun sd' S' => ∃ sd0 S0, Wk sd' S' sd0 S0 ∧ n sd0 S0
def wCl (w : WS) : WS := fun E sd S => w { E with nx := ClS E.nx } sd S
theorem ds_cl {st : Stmt} {w : WS} (h : DS X st w) : DS X st (wCl w) :=
  ps_imp h fun E σ H ⟨sd, S, E0, st, q, an⟩ => ⟨sd, S, _, st, q, ⟨fun sd' S' σ' H' ⟨sd0, S0, wk, q0⟩ n st' => an.nx sd0 S0 σ' H' q0 (fun a o h1 h2 => let ⟨x, y⟩ := n a o h1 h2; ⟨wk.sub a x, y⟩) (wk.sta _ _ _ st'), an.rt, an.bk, an.ct⟩⟩
theorem xCl {a : WS} {n bk ct : SD → SO → Prop} {r : KD} {sd : SD} {S : SO} (h : a ⟨ClS n, r, bk, ct⟩ sd S) : wCl a ⟨n, r, bk, ct⟩ sd S := h
/-! a typed while -/
section
variable {σ : Type} {c : WT} {b : WS} {n bk ct : SD → SO → Prop} {r : KD} {sd : SD} {S : SO}
end
end
end L2.DL

/-! DL36: list * n as a list that changes; list.count(None) -/
namespace L2.DL
open PySem PySem.Spec PyProof.Rows
section
variable {X : Cx}
/-! numbers or None -/
def onD : Option Nat → D
  | none => .non
  | some i => .int (i : Nat)
instance : InjD onD := ⟨fun a b e => by
  cases a <;> cases b
  · rfl
  · cases e
  · cases e
  · unfold onD at e
    injection e with e
    congr 1
    omega⟩
end
end L2.DL

/-! DL37: + of tuples, neither empty, the sum laid as .tf -/
namespace L2.DL
open PySem PySem.Spec PyProof.Rows
section
variable {X : Cx}
def oAddF : WO := fun x y S Q => ∃ a b, asTup x = some a ∧ asTup y = some b ∧ a ≠ [] ∧ b ≠ [] ∧ a.length + b.length ≤ 1000000 ∧ Q (.tf (a ++ b)) S
theorem do_addF : DO2 X (binaryOp .Add) oAddF := by
  intro pins s σ H x y v u Q I rx ry ⟨dx, dy, S, Q0, sr, r1, r2, ⟨a, b, h1, h2, na, nb, hl, q⟩, an⟩
  obtain ⟨p1, vs, e1, t1, rv⟩ := asTup_at r1 h1
  obtain ⟨p2, us, e2, t2, ru⟩ := asTup_at r2 h2
  subst e1 e2
  cases rx
  cases ry
  have rvu := rv.app ru
  have l1 := rv.length
  have l2 := ru.length
  have hz : vs.length + us.length ≤ sizeLine := by rw [← l1, ← l2]; exact le_line hl
  obtain ⟨its, w1, t1, _⟩ := I.tuple t1
  obtain ⟨its2, w2, t2, _⟩ := I.tuple t2
  have n1 : vs ≠ [] := fun e => na (by subst e; exact List.length_eq_zero_iff.mp l1)
  have n2 : us ≠ [] := fun e => nb (by subst e; exact List.length_eq_zero_iff.mp l2)
  have hf := I.hok.fresh (Nat.le_refl _)
  refine HT.cat_tup t1 t2 (fun z => n1 (w1.nil_iff.mp z)) (fun z => absurd (w2.nil_iff.mp z) n2) (fun z => ?_) (by rw [← w1.length, ← w2.length]; exact hz)
  refine ⟨.ref s.heap.objs.size, _, I.laid (t' := s.toks) (o := .frz { cls := .type "tuple", data := .seq (its ++ its2).toArray } (.tup (vs ++ us))) (fun b ob q => Heap.get?_push_of_some _ q) (Nat.le_refl _) ?_, rfl, an _ _ _ _ q (nx_new hf) (sr.new hf) ⟨_, vs ++ us, rfl, ⟨sr.free hf, _, upd_same, rfl, rfl⟩, rvu.nx (nx_new hf)⟩⟩
  exact ⟨Heap.get?_push_size _ rfl, by rw [List.length_append]; exact hz, _, w1.append w2, by have := IsTup.new s.heap (its ++ its2).toArray; simpa using this⟩
end
end L2.DL

/-! DL38: list.extend -/
namespace L2.DL
open PySem PySem.Spec PyProof.Rows
section
variable {X : Cx}
end
end L2.DL

/-! DL39: dict.update(dict) -/
namespace L2.DL
open PySem PySem.Spec PyProof.Rows
section
variable {X : Cx}
theorem RelK.len {K : PySem.W.Frag} {S : SO} {H : Hp} : ∀ {ys : List (D × D)} {l : List (Key × V)}, RelK K S H ys l → ys.length = l.length
  | [], l, h => by
    have e : l = [] := h
    subst e
    rfl
  | (k, d) :: ys, l, h => by
    obtain ⟨q, v, r, rfl, _, _, h2⟩ := h
    rw [List.length_cons, List.length_cons, RelK.len h2]
end
end L2.DL

/-! DL40: tuple * int -/
namespace L2.DL
open PySem PySem.Spec PyProof.Rows
section
variable {X : Cx}
def oMulT : WO := fun x y S Q => ∃ xs k, x = .tup xs ∧ y = .int k ∧ xs ≠ [] ∧ 2 ≤ k ∧ k ≤ 1000 ∧ xs.length ≤ 1000 ∧ Q (.tup (List.replicate k.toNat xs).flatten) S
theorem do_mulT : DO2 X (binaryOp .Mult) oMulT := by
  intro pins s σ H x y v u Q I rx ry ⟨dx, dy, S, Q0, sr, r1, r2, q, an⟩
  obtain ⟨xs, k, rfl, rfl, h0, h1, h2, h3, q⟩ := q
  obtain ⟨a, vs, e1, t1, rv⟩ := asTup_at r1 rfl
  have e2 : y = .int k := r2
  have hl := rv.length
  refine op_repT pins s σ H x y v u Q I rx ry ⟨a, k, vs, e1, e2, t1, fun e => ?_, h1, h2, by omega, fun p hp => ?_⟩
  · subst e
    exact h0 (List.length_eq_zero_iff.mp hl)
  · exact an _ _ _ _ q (nx_new hp) (sr.new hp) ⟨p, _, rfl, ⟨sr.free hp, upd_same⟩, (rv.rep _).nx (nx_new hp)⟩
theorem mulT2 {S : SO} {Q : KD} {xs : List D} (h0 : xs ≠ []) (hl : xs.length ≤ 1000) (h : Q (.tup (xs ++ xs)) S) : oMulT (.tup xs) (.int 2) S Q :=
  ⟨xs, 2, rfl, rfl, h0, by decide, by decide, hl, by
    show Q (.tup (List.replicate 2 xs).flatten) S
    rw [List.replicate_succ, List.replicate_succ, List.replicate_zero, List.flatten_cons, List.flatten_cons, List.flatten_nil, List.append_nil]
    exact h⟩
end
end L2.DL

/-! DL41: sorted(set(xs)) of texts, of ints -/
namespace L2.DL
open PySem PySem.Spec PyProof.Rows
/-- the elements of a set, by keys of one kind -/
structure SK (P : Program) (w : World) (K : Type) [DecidableEq K] where
  κ : PySem.KeyKind P w K
  val : K → Tok → Value
  key : Value → K
  keyV : ∀ k t, key (val k t) = k
  isV : ∀ k t, κ.is k (val k t) = true
  scn : ∀ k t, (val k t).scannable = true
def skInt (P : Program) (w : World) : SK P w Int where
  κ := PySem.intKind P w
  val := Value.int
  key := fun v => match v with
    | .int k _ => k
    | _ => 0
  keyV := fun _ _ => rfl
  isV := fun k u => intKind_is P w k u
  scn := fun _ _ => rfl
section
variable {P : Program} {w : World} {K : Type} [DecidableEq K] {Z : SK P w K}
theorem SK.is_iff (Z : SK P w K) {k j : K} {u : Tok} : Z.κ.is j (Z.val k u) = true ↔ k = j := by
  rw [PySem.KeyKind.is_eq_decide (Z.isV k u) j, decide_eq_true_iff]
  exact eq_comm
abbrev SEs := Array (Int × Value)
def SK.keys (Z : SK P w K) (l : SEs) : List K := l.toList.map fun e => Z.key e.2
/-- the payload holds the keys of M, n of them, and can be walked -/
structure SK.Tb (Z : SK P w K) (l : SEs) (t : SetTable) (M : K → Bool) (n : Nat) : Prop where
  el : ∀ e ∈ l.toList, ∃ k u, e = (Z.κ.hash k, Z.val k u)
  nd : (Z.keys l).Nodup
  mem : ∀ k, M k = true ↔ k ∈ Z.keys l
  fit : t.fits l.size = true
  sz : l.size = n
  ris : Ris t.place.toList
  led : w.params.followText "set-order" = true ∨ t.led = true
theorem SK.Tb.mv {l l2 : SEs} {t t2 : SetTable} {M : K → Bool} {n : Nat} (T : Z.Tb l t M n) (p : List.Perm l2.toList l.toList) (hf : t2.fits l2.size = true) (hr : Ris t2.place.toList) (hl : t2.led = t.led) : Z.Tb l2 t2 M n :=
  ⟨fun e he => T.el e (p.mem_iff.mp he), (p.map _).nodup_iff.mpr T.nd, fun k => (T.mem k).trans (p.map _).mem_iff.symm, hf, by rw [← T.sz, ← Array.length_toList, p.length_eq, Array.length_toList], hr, hl ▸ T.led⟩
theorem SK.Tb.add {l l2 : SEs} {t t2 : SetTable} {M : K → Bool} {n : Nat} {k : K} {u : Tok} (T : Z.Tb l t M n) (hk : M k = false) (p : List.Perm l2.toList ((Z.κ.hash k, Z.val k u) :: l.toList)) (hf : t2.fits l2.size = true) (hr : Ris t2.place.toList) (hl : t2.led = t.led) : Z.Tb l2 t2 (fun j => M j || decide (j = k)) (n + 1) := by
  have pk : (Z.keys l2).Perm (k :: Z.keys l) := by
    have := p.map fun e => Z.key e.2
    rwa [List.map_cons, Z.keyV] at this
  have hn : k ∉ Z.keys l := fun h => by
    rw [(T.mem k).mpr h] at hk
    cases hk
  refine ⟨fun e he => ?_, pk.nodup_iff.mpr (List.nodup_cons.mpr ⟨hn, T.nd⟩), fun j => ?_, hf, ?_, hr, hl ▸ T.led⟩
  · rcases List.mem_cons.mp (p.mem_iff.mp he) with h | h
    · exact ⟨k, u, h⟩
    · exact T.el e h
  · rw [pk.mem_iff, List.mem_cons, Bool.or_eq_true, decide_eq_true_iff, T.mem j, or_comm]
  · rw [← T.sz, ← Array.length_toList, p.length_eq, List.length_cons, Array.length_toList]
theorem SK.Tb.elems {l : SEs} {t : SetTable} {M : K → Bool} {n : Nat} (T : Z.Tb l t M n) : ElemsOf Z.κ l.toList := fun e he => by
  obtain ⟨k, u, rfl⟩ := T.el e he
  exact ⟨⟨k, Z.isV k u, rfl⟩, Z.scn k u⟩
theorem SK.Tb.has {l : SEs} {t : SetTable} {M : K → Bool} {n : Nat} (T : Z.Tb l t M n) (k : K) : M k = true ↔ ∃ e ∈ l.toList, Z.κ.is k e.2 = true := by
  rw [T.mem k]
  unfold SK.keys
  rw [List.mem_map]
  constructor
  · rintro ⟨e, he, h⟩
    obtain ⟨j, u, rfl⟩ := T.el e he
    have h : Z.key (Z.val j u) = k := h
    rw [Z.keyV] at h
    exact ⟨_, he, Z.is_iff.mpr h⟩
  · rintro ⟨e, he, h⟩
    obtain ⟨j, u, rfl⟩ := T.el e he
    exact ⟨_, he, (Z.keyV j u).trans (Z.is_iff.mp h)⟩
/-- the set at a -/
def SK.Is (Z : SK P w K) (h : Heap) (a : Addr) (M : K → Bool) (n : Nat) : Prop := ∃ o l ep t, h.get? a = some o ∧ o.ExactSet ∧ o.data = .set l ep t ∧ Z.Tb l t M n
theorem SK.Is.at {h h' : Heap} {a : Addr} {M : K → Bool} {n : Nat} (R : Z.Is h a M n) (k : ∀ o, h.get? a = some o → h'.get? a = some o) : Z.Is h' a M n := by
  obtain ⟨o, l, ep, t, g, r⟩ := R
  exact ⟨o, l, ep, t, k o g, r⟩
theorem SK.Is.eqv {h : Heap} {a : Addr} {M M' : K → Bool} {n : Nat} (R : Z.Is h a M n) (e : ∀ k, M' k = M k) : Z.Is h a M' n := (funext e : M' = M) ▸ R
variable {A : Around} {E : Value → Shared → Prop} {s : Shared} {a : Addr} {M : K → Bool} {n : Nat}
theorem put_at {h : Heap} {o : Obj} {l l2 : SEs} {ep : Nat} {t t2 : SetTable} (g : h.get? a = some o) (e : o.data = .set l ep t) : (h.update a (Obj.putSet l2 t2)).get? a = some { o with data := .set l2 (ep + 1) t2 } := by
  rw [← putSet_of l2 t2 e]
  exact Heap.get?_update_self (Obj.putSet l2 t2) g (by rw [putSet_of l2 t2 e]; rfl)
theorem SK.tail {g : Bool → Sem Unit} (hg : ∀ (b : Bool) (s1 : Shared) (Q1 : Unit → Shared → Prop), Q1 () s1 → wpAny (model P w) A (g b) Q1 E s1) {o : Obj} {l0 l : SEs} {ep : Nat} {t0 t : SetTable} (h1 : s.heap.get? a = some o) (h2 : o.ExactSet) (h3 : o.data = .set l0 ep t0)
    (T : Z.Tb l t M n) (hb : n < scanBound) {wd : Bool} {R : Option Bool → Shared → Prop} (hR : ∀ h', Heap.SameBut a s.heap h' → Z.Is h' a M n → R (some true) { s with heap := h' }) :
    wpAny (model P w) A (storeSet a l t >>= fun _ => if (!wd && t.tooFull) = true then g (relayAll t l (SetTable.grown l.size)).2.2 >>= fun _ => storeSet a (relayAll t l (SetTable.grown l.size)).1 (relayAll t l (SetTable.grown l.size)).2.1 >>= fun _ => pure (some true) else pure (some true)) R E s := by
  have few : ∀ {l2 : SEs}, l2.size = n → l2.size < scanBound := fun e => e ▸ hb
  refine wpAny_bind (wpAny_storeSet_of h1 h3 ?_ (fits_of_scanBound (few T.sz)))
  have g1 := put_at (l2 := l) (t2 := t) h1 h3
  have b1 := Heap.SameBut.update s.heap a (Obj.putSet l t)
  by_cases c : (!wd && t.tooFull) = true
  · rw [if_pos c]
    have T2 : Z.Tb (relayAll t l (SetTable.grown l.size)).1 (relayAll t l (SetTable.grown l.size)).2.1 M n := T.mv (relayAll_perm ..) (relayAll_fits ..) (relayAll_ris ..) (relayAll_led ..)
    refine wpAny_bind (hg _ _ _ (wpAny_bind (wpAny_storeSet_of g1 rfl ?_ (fits_of_scanBound (few T2.sz)))))
    exact wpAny_pure (hR _ (b1.trans (Heap.SameBut.update _ a _)) ⟨_, _, _, _, put_at g1 rfl, h2, rfl, T2⟩)
  · rw [if_neg c]
    exact wpAny_pure (hR _ b1 ⟨_, _, _, _, g1, h2, rfl, T⟩)
theorem SK.put {k : K} {u : Tok} {Q : Bool → Shared → Prop} (R : Z.Is s.heap a M n) (room : n + 1 < scanBound)
    (hQ : ∀ h', Heap.SameBut a s.heap h' → Z.Is h' a (fun j => M j || decide (j = k)) (if M k = true then n else n + 1) → Q (!M k) { s with heap := h' }) : wpAny (model P w) A (setAddHashed a (Z.val k u) (Z.κ.hash k)) Q E s := by
  obtain ⟨o, l, ep, t, h1, h2, h3, T⟩ := R
  have hb : l.size < scanBound := by rw [T.sz]; omega
  have quiet : ∀ (b : Bool) (s1 : Shared) (Q1 : Unit → Shared → Prop), Q1 () s1 → wpAny (model P w) A (match b with | true => rule "set.scan.the-table-gave-way" | false => pure ()) Q1 E s1 := fun b s1 Q1 q => by
    cases b
    · exact wpAny_pure q
    · exact wpAny_rule q
  unfold setAddHashed setAddHashedIn
  refine wpAny_holding (wpAny_bind (wpAny_setState_of h1 h3 T.fit ?_))
  dsimp only
  rw [byScan_of (Z.scn k u) hb T.elems]
  simp only [↓reduceIte]
  unfold setAddByScan
  refine wpAny_bind (wpAny_bind (wpAny_rule (wpAny_bind (wpAny_setScan_of (Z.isV k u) h1 h3 T.fit T.elems ?_))))
  cases hM : M k with
  | true =>
    obtain ⟨e, he, hi⟩ := (T.has k).mp hM
    cases f : List.findIdx? (fun e => Z.κ.is k e.2) l.toList with
    | none =>
      have := List.findIdx?_eq_none_iff.mp f e he
      rw [hi] at this
      cases this
    | some j =>
      dsimp only
      have q := hQ s.heap (Heap.SameBut.refl a s.heap) (by
        rw [if_pos hM]
        refine SK.Is.eqv ⟨o, l, ep, t, h1, h2, h3, T⟩ fun j => ?_
        by_cases c : j = k
        · subst c
          rw [hM]
          rfl
        · rw [decide_eq_false c, Bool.or_false])
      rw [hM] at q
      exact wpAny_pure (wpAny_pure q)
  | false =>
    cases f : List.findIdx? (fun e => Z.κ.is k e.2) l.toList with
    | some j =>
      obtain ⟨hj, pj, _⟩ := List.findIdx?_eq_some_iff_getElem.mp f
      have := (T.has k).mpr ⟨_, List.getElem_mem hj, pj⟩
      rw [hM] at this
      cases this
    | none =>
      dsimp only
      have pm := layNew_perm t l (Z.κ.hash k) (Z.val k u)
      rw [Array.toList_push] at pm
      have T2 : ∀ t2 : SetTable, t2.fits (layNew t l (Z.κ.hash k) (Z.val k u)).1.size = true → t2.place = (layNew t l (Z.κ.hash k) (Z.val k u)).2.1.place → t2.led = (layNew t l (Z.κ.hash k) (Z.val k u)).2.1.led → Z.Tb (layNew t l (Z.κ.hash k) (Z.val k u)).1 t2 (fun j => M j || decide (j = k)) (n + 1) := fun t2 f p e =>
        T.add hM (pm.trans (List.perm_append_singleton _ _)) f (p ▸ layNew_ris t l (Z.κ.hash k) (Z.val k u) T.ris) (e.trans (layNew_led t l (Z.κ.hash k) (Z.val k u)))
      have f1 := layNew_fits t l (Z.κ.hash k) (Z.val k u)
      have fin : ∀ h', Heap.SameBut a s.heap h' → Z.Is h' a (fun j => M j || decide (j = k)) (n + 1) → Q true { s with heap := h' } := fun h' sb r => by
        have q := hQ h' sb
        rw [hM] at q
        exact q r
      generalize layNew t l (Z.κ.hash k) (Z.val k u) = N at T2 f1 ⊢
      obtain ⟨l1, t1, wd, gave⟩ := N
      dsimp only at T2 f1 ⊢
      refine wpAny_bind (quiet _ _ _ ?_)
      have last : ∀ h', Heap.SameBut a s.heap h' → Z.Is h' a (fun j => M j || decide (j = k)) (n + 1) → wpAny (model P w) A (match some true with | some added => pure added | none => setAddHashedIn a (Z.val k u) (Z.κ.hash k) 99999) Q E { s with heap := h' } := fun h' sb r => wpAny_pure (fin h' sb r)
      split
      · refine wpAny_bind ?_
        rw [hashByValue_scannable 8 (Z.scn k u)]
        refine wpAny_pure (SK.tail (fun b s1 Q1 q => ?_) h1 h2 h3 (M := fun j => M j || decide (j = k)) (n := n + 1) ?_ room fun h' sb r => last h' sb r)
        · cases b
          · exact wpAny_pure q
          · exact wpAny_rule q
        · split
          · exact T2 _ f1 rfl rfl
          · exact T2 _ (SetTable.fits_plain_off f1) rfl rfl
      · refine wpAny_bind (wpAny_pure ?_)
        simp only [↓reduceIte]
        refine SK.tail (fun b s1 Q1 q => ?_) h1 h2 h3 (T2 _ f1 rfl rfl) room fun h' sb r => last h' sb r
        cases b
        · exact wpAny_pure q
        · exact wpAny_rule q
/-- what the iterator gives, put in one by one -/
theorem SK.fill {I : Addr} {fp wr : List Addr} {G : Array GenState → Array GenState → Prop} {m : Nat} {Pv : Nat → Value → Prop} {St : Nat → Shared → Prop} {R : Result → Shared → Prop} (W : WalksS P w A.in1 I fp wr G m Pv St) (c : Addr) (out : c ∉ fp) (ks : List K) (hm : m = ks.length) (few : ks.length + 1 < scanBound)
    (hv : ∀ i v, Pv i v → ∃ k u, ks[i]? = some k ∧ v = Z.val k u) : ∀ (d i : Nat) (s : Shared), m - i = d → i ≤ m → St i s → (∃ n, n ≤ i ∧ Z.Is s.heap c (fun j => decide (j ∈ ks.take i)) n) →
      (∀ s2 n, Moved (c :: wr) G s s2 → n ≤ m → Z.Is s2.heap c (fun j => decide (j ∈ ks)) n → R (.ok (.ret .none)) s2) → codeAny (model P w) A (.builtin "set.update.loop" ⟨[.ref c, .ref I], []⟩) R s := by
  have cw : c ∉ wr := fun h => out (W.sub _ h)
  have up : ∀ b ∈ wr, b ∈ c :: wr := fun b h => List.mem_cons_of_mem _ h
  intro d
  induction d with
  | zero =>
    intro i s e1 e2 st ⟨n, hn, hS⟩ fin
    obtain rfl : i = m := by omega
    refine codeAny_builtin F.entry_set_update_loop ?_
    rw [Around.under_plainId F.plain_set_update_loop (args := _)]
    show wpAny _ A.in1 (pyNext (.ref I) >>= fun x => _) _ _ s
    refine wpAny_bind (W.done s _ _ st fun s2 mv => ?_)
    rw [List.take_of_length_le (show ks.length ≤ i by omega)] at hS
    exact wpAny_pure (fin s2 n (mv.mono up) hn (hS.at fun o e => mv.heap c o cw e))
  | succ d ih =>
    intro i s e1 e2 st ⟨n, hn, hS⟩ fin
    refine codeAny_builtin F.entry_set_update_loop ?_
    rw [Around.under_plainId F.plain_set_update_loop (args := _)]
    show wpAny _ A.in1 (pyNext (.ref I) >>= fun x => _) _ _ s
    refine wpAny_bind (W.item i s _ _ (by omega) st fun v s1 pv st1 mv => ?_)
    obtain ⟨k, u, hk, rfl⟩ := hv i v pv
    have h1 : Z.Is s1.heap c (fun j => decide (j ∈ ks.take i)) n := hS.at fun o e => mv.heap c o cw e
    refine wpAny_bind (wpAny_holding (show wpAny _ A.in1 (setAdd c (Z.val k u)) _ _ s1 from ?_))
    unfold setAdd
    refine wpAny_holding (wpAny_bind (Z.κ.pyHash (Z.isV k u) (SK.put (s := { s1 with toks := s1.toks + 1 }) h1 (by omega) fun h2 sb r => ?_)))
    have r2 : Z.Is h2 c (fun j => decide (j ∈ ks.take (i + 1))) (if decide (k ∈ ks.take i) = true then n else n + 1) := r.eqv fun j => by
      rw [List.take_add_one, hk, Option.toList_some, ← Bool.decide_or]
      exact decide_eq_decide.mpr (List.mem_append.trans (or_congr Iff.rfl List.mem_singleton))
    refine wpAny_pure ⟨plainId_quiet F.plain_set_update_loop _, ih (i + 1) _ (by omega) (by omega) (W.frame _ s1 _ _ st1 (Nat.le_succ _) fun b hb o e => (sb.2 b fun z => out (z ▸ hb)).trans e) ⟨_, by split <;> omega, r2⟩ fun s3 n3 mv3 h3 hS3 => ?_⟩
    exact fin s3 n3 (Moved.trans W.gtrans ((mv.mono up).then_heap (Nat.le_succ _) fun b o hb e => (sb.2 b fun z => hb (z ▸ List.mem_cons_self)).trans e) mv3) h3 hS3
abbrev obS (w : World) : Obj := { cls := .type "set", dict := none, data := .set #[] 0 (.fresh 0 0 (!w.params.followText "set-order")) }
theorem SK.fresh {h : Heap} {ks : List K} (g : h.get? a = some (obS w)) : Z.Is h a (fun j => decide (j ∈ ks.take 0)) 0 :=
  ⟨_, #[], 0, _, g, ⟨rfl, rfl, rfl⟩, rfl, ⟨fun e he => by simp at he, List.nodup_nil, fun k => by simp [SK.keys], rfl, rfl, .nil, by
    cases c : w.params.followText "set-order"
    · exact .inr rfl
    · exact .inl rfl⟩⟩
/-- set(xs) of a list -/
theorem SK.newL {l : Addr} {its : Array Value} (ks : List K) {Q : Value → Shared → Prop} (hh : A.handled = none) (hl : s.heap.IsList l its) (hz : its.size = ks.length) (few : ks.length + 1 < scanBound) (hv : ∀ (i : Nat) (v : Value), its[i]? = some v → ∃ (k : K) (u : Tok), ks[i]? = some k ∧ v = Z.val k u)
    (q : ∀ (h' : Heap) (tk n : Nat), Z.Is h' s.heap.objs.size (fun j => decide (j ∈ ks)) n → n ≤ ks.length → (∀ b o, s.heap.get? b = some o → h'.get? b = some o) → Q (.ref s.heap.objs.size) { s with heap := h', toks := tk }) : wpAny (model P w) A (call (.type "set") [.ref l]) Q E s := by
  obtain ⟨c0, c1, hmro⟩ := F.called_set.mro
  have e1 := F.called_set.made; have e2 := F.called_set.sub; have e3 := F.called_set.notType; have e4 := F.called_set.canCreate; have e5 := F.typeCall_set_1 (.ref l)
  refine wpAny_call (codeAny_of_tree (show wpAny _ _ (callAny (.type "set") _) _ _ _ from wpAny_pure ⟨Code.quiet_builtin _ (by decide +kernel), codeAny_builtin F.entry_type_call ?_⟩))
  rw [Around.under_plain (weight_type_call_type "set" [.ref l] []) (by rfl)]
  (skip; repeat (any_goals (first | assumption | wp_step)))
  refine codeAny_mono (code_set_led1 (.ref l) (E := E) (Q₁ := fun x s1 => x = .ref s.heap.objs.size ∧ s1 = { s with heap := s.heap.push (obS w) }) ⟨rfl, rfl⟩) fun r s1 hr => ?_
  rcases r with e | f
  · exact hr
  cases f with
  | ret x =>
    obtain ⟨rfl, rfl⟩ := hr
    have g0 : (s.heap.push (obS w)).get? s.heap.objs.size = some (obS w) := Heap.get?_push_size _ (by rfl)
    have g1 : Shared.TypeIs { s with heap := s.heap.push (obS w) } (.ref s.heap.objs.size) "set" := ⟨_, g0, rfl⟩
    have i1 := F.called_set.init.lookup; have i2 := F.called_set.init.bind (.ref s.heap.objs.size)
    (skip; repeat (any_goals (first | assumption | wp_step)))
    refine codeAny_mono (codeAny_call_builtin (R := wants (fun r s2 => r = .none ∧ ∃ h' tk n, s2 = { s with heap := h', toks := tk } ∧ Z.Is h' s.heap.objs.size (fun j => decide (j ∈ ks)) n ∧ n ≤ ks.length ∧ ∀ b o, s.heap.get? b = some o → h'.get? b = some o) E) F.called_set.init.plain F.entry_set_init (check_set_init_1 g1 ?_)) fun r2 s2 hr2 => ?_
    · obtain ⟨⟨cl, dd, dt, sl⟩, o1, o2, nl, o3⟩ := hl
      simp only at o2 o3; subst o2; subst o3
      have g2 := Heap.get?_push_of_some (obS w) o1
      have n1 := F.sub_list_set; have n2 := F.sub_list_frozenset; have n3 : (Value.type "list" == Value.type "dict") = false := by decide
      have hL : (s.heap.push (obS w)).IsList l its := ⟨_, g2, rfl, nl, rfl⟩
      have below : l < s.heap.objs.size := Heap.lt_size o1
      have zp : (s.heap.push (obS w)).objs.size = s.heap.objs.size + 1 := Heap.size_push ..
      unfold Builtin.«set.__init__» noKeywords Builtin.Frozenset.updateFrom
      generalize hp : pyIter = PI; wp_walk; subst hp
      refine wpAny_pyIter_list hL (wpAny_bind (wpAny_runValue ?_))
      have hw := (Walks.list (prog := P) (w := w) (A := A.in1.in1.in1) (by simp [hh]) (s.heap.push (obS w)).objs.size l (by rw [zp]; exact Nat.ne_of_lt (Nat.lt_succ_of_lt below)) its).toS
      refine SK.fill (Z := Z) hw s.heap.objs.size (fun h => (List.mem_cons.mp h).elim (fun e => by rw [zp] at e; exact absurd e (Nat.ne_of_lt (Nat.lt_succ_self _))) fun e => absurd (List.mem_singleton.mp e) (Nat.ne_of_gt below)) ks hz few hv (its.size - 0) 0 _ (by omega) (Nat.zero_le _) ⟨⟨_, Heap.get?_push_size _ rfl, rfl, rfl⟩, hL.push _⟩ ⟨0, Nat.le_refl 0, SK.fresh (Heap.get?_push_of_some _ g0)⟩ fun s3 n mv hn h3 => ?_
      obtain ⟨h4, gs, dr, tk, oo⟩ := s3
      obtain rfl : gs = s.gens := mv.gens; obtain rfl : dr = s.drawn := mv.drawn; obtain rfl : oo = s.os := mv.os
      refine (show wpAny _ _ _ _ _ _ from wpAny_pure (show wpAny _ _ (ret Value.none) _ _ _ from wpAny_pure ⟨rfl, h4, tk, n, rfl, h3, by omega, fun b o e => ?_⟩))
      have hb := Heap.lt_size e
      exact mv.heap b o (fun h => (List.mem_cons.mp h).elim (fun e => absurd e (Nat.ne_of_lt hb)) fun e => by have e := List.mem_singleton.mp e; rw [zp] at e; exact absurd e (Nat.ne_of_lt (Nat.lt_succ_of_lt hb))) (Heap.get?_push_of_some _ (Heap.get?_push_of_some _ e))
    · rcases r2 with e | f2
      · exact hr2
      cases f2 with
      | ret y =>
        obtain ⟨rfl, h4, tk, n, rfl, h3, hn, kp⟩ := hr2
        (skip; repeat (any_goals (first | assumption | wp_step)))
        exact q _ _ _ h3 hn kp
      | _ => exact hr2.elim
  | _ => exact hr.elim
/-- sorted(c), c a set -/
theorem SK.sort {ord : PyProof.Rows.KeyKind} (one : ord.OneLt) {c : Addr} {Q : Value → Shared → Prop} (R : Z.Is s.heap c M n) (hh : A.handled = none) (few : n < scanBound)
    (hk : ∀ vs : List Value, (∀ v ∈ vs, ∃ k u, v = Z.val k u) → PyProof.Rows.KeysOf ord (pairsOf vs) ∧ ∀ v1 v2 rest, vs = v1 :: v2 :: rest → keyKind' (v1 :: v2 :: rest).toArray = pure oneType')
    (h : ∀ (s2 : Shared) (vs : List Value) (p : Addr) (e : Nat) (st : SortSt), (∀ v ∈ vs, ∃ k u, v = Z.val k u) → (vs.map Z.key).Nodup → (∀ k, k ∈ vs.map Z.key ↔ M k = true) → vs.length = n → (∀ b o, s.heap.get? b = some o → s2.heap.get? b = some o) → s.heap.objs.size ≤ p →
      s2.heap.get? p = some (seqObj "list" ((arrOf st).map (·.2)) e) → (arrOf st).Perm (pairsOf vs) → SortedToK ord (arrOf st) (pairsOf vs).size → s2.gens = s.gens → s2.os = s.os → Q (.ref p) s2) :
    wpAny (model P w) A (call (.builtin "sorted") [.ref c]) Q E s := by
  obtain ⟨o, l, ep, t, h1, h2, h3, T⟩ := R
  refine Calls.call_function_entry kind_sorted plain_sorted entry_sorted (args_sorted1 (Value.ref c)) (show wpAny (model P w) _ (Builtin.«sorted» _) _ _ s from ?_)
  unfold Builtin.«sorted»
  refine wpAny_bind (m := checkCount "sorted" 1 1 _) (wpAny_pure (wpAny_bind (collect_set (A := A.in1) hh ⟨o, h1, h2.1, h3⟩ T.fit (by rw [T.sz]; exact few) T.ris T.led fun s1 vs kp zs gs os pm => ?_)))
  have hv : ∀ v ∈ vs, ∃ k u, v = Z.val k u := fun v hv => by
    obtain ⟨e, he, rfl⟩ := List.mem_map.mp (pm.mem_iff.mp hv)
    obtain ⟨k, u, rfl⟩ := T.el e he
    exact ⟨k, u, rfl⟩
  have pk : (vs.map Z.key).Perm (Z.keys l) := by
    have := pm.map Z.key
    rwa [List.map_map] at this
  have hl : vs.length = n := by rw [pm.length_eq, List.length_map, Array.length_toList, T.sz]
  have hL : vs.length ≤ sizeLine := by
    rw [hl, sizeLine_eq]
    unfold scanBound at few
    omega
  obtain ⟨k1, k2⟩ := hk vs hv
  refine wpAny_bind (wpAny_newList ?_ hL)
  have hoL : (s1.heap.push (seqObj "list" vs.toArray 0)).get? s1.heap.objs.size = some (seqObj "list" vs.toArray 0) := Heap.get?_push_size _ (by rfl)
  refine wpAny_bind (wpAny_holding (wpAny_call_entry slot_list_sort ⟨_, hoL, rfl⟩ entry_list_sort (list_sort_treeKAny one hoL k1 k2 hL fun st a1 a2 => ⟨_, rfl, ?_⟩) (args_list_sort _)))
  obtain ⟨e, he⟩ := sortedHeap_at (out := (arrOf st).map (·.2)) hoL
  refine wpAny_pure ⟨_, rfl, h _ vs _ e st hv (pk.nodup_iff.mpr T.nd) (fun k => pk.mem_iff.trans (T.mem k).symm) hl (fun b o' q => ?_) zs he a1 a2 gs os⟩
  have q1 := kp b o' q
  have hlt := Heap.lt_size q1
  exact (sortedHeap_old (Nat.ne_of_lt hlt) (by rw [size_push']; exact Nat.lt_succ_of_lt hlt)).trans (Heap.get?_push_of_some _ q1)
end
end L2.DL

/-! DL42: sorted(set(xs)) as a rule -/
namespace L2.DL
open PySem PySem.Spec PyProof.Rows
theorem ints_vals {P : Program} {w : World} : ∀ vs : List Value, (∀ v ∈ vs, ∃ k u, v = (skInt P w).val k u) → IntsAre vs (vs.map (skInt P w).key)
  | [], _ => .nil
  | v :: vs, h => by
    obtain ⟨k, u, rfl⟩ := h v (List.mem_cons_self ..)
    exact .cons k u (ints_vals vs fun x hx => h x (List.mem_cons_of_mem _ hx))
/-- a set as a tracked thing -/
def SetZ {P : Program} {w : World} {K : Type} [DecidableEq K] (Z : SK P w K) (a : Addr) (M : K → Bool) (n : Nat) : HO := .ext fun h => Z.Is h a M n
theorem setZ_new {P : Program} {w : World} {K : Type} [DecidableEq K] {Z : SK P w K} {H : Hp} {h : Heap} {a : Addr} {M : K → Bool} {n : Nat} (R : Z.Is h a M n) : ObjOk P w H h a (SetZ Z a M n) := by
  have ⟨o, _, _, _, ho, _⟩ := R
  exact ⟨R, ⟨o, ho⟩, fun _ _ p k => SK.Is.at p k⟩
section
variable {X : Cx} {K : Type} [DecidableEq K]
/-- set(xs), xs a list of ks -/
def rSetZ (X : Cx) (Z : SK X.prog X.w K) (kv : K → V) : List V → Hp → VK → Prop := fun vs H Q => ∃ (a : Addr) (ks : List K), vs = [.ref a] ∧ SqL X.K H a (ks.map kv) ∧ ks.length ≤ 4000 ∧ ∀ p n, H p = none → n ≤ ks.length → Q (.ref p) (upd H p (SetZ Z p (fun j => decide (j ∈ ks)) n))
theorem cr_setZ (hc : X.calm = true) {Z : SK X.prog X.w K} {kv : K → V} (hkv : ∀ {vs : List Value} {ks : List K}, Vals (ks.map kv) vs → ∀ (i : Nat) (v : Value), vs[i]? = some v → ∃ (k : K) (u : Tok), ks[i]? = some k ∧ v = Z.val k u) : CallR X (.type "set") (rSetZ X Z kv) := by
  intro pins s σ H vs us Q I r ⟨a, ks, ev, hq, few, q⟩
  subst ev
  rw [Vals.ref1 r]
  obtain ⟨its, rr, pl, hz⟩ := I.list hq
  have hl := rr.length
  rw [List.length_map] at hl
  refine SK.newL (Z := Z) (its := its.toArray) ks (I.ok.hd hc) ?_ (by rw [List.size_toArray]; exact hl.symm) (by unfold scanBound; omega) (fun i v h => hkv rr i v (by simpa using h)) fun h' tk n h1 h2 h3 => ?_
  · obtain ⟨o, n, ho, hcl, _, hd⟩ := pl
    exact ⟨o, ho, hcl, n, hd⟩
  · exact ⟨.ref s.heap.objs.size, upd H s.heap.objs.size (SetZ Z s.heap.objs.size (fun j => decide (j ∈ ks)) n), I.laid (t' := tk) h3 (Nat.le_refl _) (setZ_new h1), rfl, q _ n (I.hok.fresh (Nat.le_refl _)) h2⟩
/-- sorted(c), c such a set -/
def rSortZ (X : Cx) (Z : SK X.prog X.w K) (kv : K → V) (good : List K → Prop) : List V → Hp → VK → Prop := fun vs H Q => ∃ a M n, vs = [.ref a] ∧ H a = some (SetZ Z a M n) ∧ n ≤ 4000 ∧ ∀ (ks : List K) (p : Addr), ks.Nodup → good ks → (∀ k, k ∈ ks ↔ M k = true) → H p = none → Q (.ref p) (upd H p (.lst (ks.map kv)))
theorem sort_done {Z : SK X.prog X.w K} {kv : K → V} {pins : List (Addr × Obj)} {σ : St} {H : Hp} {s s2 : Shared} {p : Addr} {ks : List K} {out : Array Value} {e : Nat} {Q : VK} (I : Inv X pins σ H s) (kp : ∀ b o, s.heap.get? b = some o → s2.heap.get? b = some o) (gs : s2.gens = s.gens) (os : s2.os = s.os) (hp : s.heap.objs.size ≤ p) (hg : s2.heap.get? p = some (seqObj "list" out e)) (hv : Vals (ks.map kv) out.toList) (hl : ks.length ≤ 4000) (q : Q (.ref p) (upd H p (.lst (ks.map kv)))) : EP X pins σ Q (.ref p) s2 := by
  have hn : H p = none := I.hok.fresh hp
  have hlen : (ks.map kv).length ≤ sizeLine := by rw [List.length_map, sizeLine_eq]; omega
  have J : Inv X pins σ (upd H p (.lst (ks.map kv))) { s with heap := s2.heap, gens := s2.gens, drawn := s2.drawn, toks := s2.toks } := I.call (ch := []) (Un.laid kp hp hn) (I.hok.laid kp hp ⟨hlen, out.toList, e, hv, hg⟩) (by rw [gs]; exact I.bare) (fun _ z => nomatch z)
  have e2 : s2 = { s with heap := s2.heap, gens := s2.gens, drawn := s2.drawn, toks := s2.toks } := by
    rw [← os]
  rw [e2]
  exact ⟨.ref p, _, J, rfl, q⟩
theorem cr_sortI (hc : X.calm = true) : CallR X (.builtin "sorted") (rSortZ X (skInt X.prog X.w) V.int fun ks => ks.Pairwise (· ≤ ·)) := by
  intro pins s σ H vs us Q I r ⟨a, M, n, ev, ha, few, q⟩
  subst ev
  rw [Vals.ref1 r]
  have R : (skInt X.prog X.w).Is s.heap a M n := (I.hok a _ ha).1
  refine SK.sort intKind_oneLt R (I.ok.hd hc) (by unfold scanBound; omega) (fun vs hv => ⟨(ints_vals vs hv).keysOfInt, fun v1 v2 rest e => keyKind_ints (by rw [← e]; exact ints_vals vs hv)⟩) fun s2 vs p e st hv nd me hl kp hp hg pm so gs os => ?_
  obtain ⟨ks, h1, h2, h3⟩ := sorted_out (ints_vals vs hv) pm (sortedTo_of_int so)
  have hn : H p = none := I.hok.fresh hp
  exact sort_done (Z := skInt X.prog X.w) I kp gs os hp hg (vals_of_ints h1) (by rw [h2.length_eq, List.length_map]; omega) (q ks p (h2.nodup_iff.mpr nd) h3 (fun k => h2.mem_iff.trans (me k)) hn)
def wSortSetI (we : WE) : WE := fun sd S Q => we sd S fun x S1 => ∃ ss : List Int, lstX S1 x = some (ss.map D.int) ∧ ss.length ≤ 4000 ∧ ∀ ss' : List Int, ss'.Nodup → ss'.Pairwise (· ≤ ·) → (∀ k, k ∈ ss' ↔ k ∈ ss) → Q (.lst (ss'.map D.int)) S1
theorem ints_at2 : ∀ {vs : List Value} {ks : List Int}, Vals (ks.map V.int) vs → ∀ (i : Nat) (v : Value), vs[i]? = some v → ∃ (k : Int) (u : Tok), ks[i]? = some k ∧ v = (skInt X.prog X.w).val k u
  | [], _, _, i, v, h => by simp at h
  | x :: vs, [], r, _, _, _ => by cases r
  | x :: vs, k :: ks, r, i, v, h => by
    cases r with
    | cons r0 rr =>
      cases i with
      | zero =>
        obtain ⟨t, e⟩ := r0
        refine ⟨k, t, rfl, ?_⟩
        have : x = v := by simpa using h
        rw [← this, e]
        rfl
      | succ i =>
        obtain ⟨j, u, e1, e2⟩ := ints_at2 rr i v (by simpa using h)
        exact ⟨j, u, by simpa using e1, e2⟩
theorem de_sortsetI {e : Expr} {we : WE} {p p2 pos pos2 : Pos} (hc : X.calm = true) (hg : Gl X "sorted") (hm : X.mg "sorted" = none) (hv : bootBuiltins "sorted" = some (.builtin "sorted")) (hg2 : Gl X "set") (hm2 : X.mg "set" = none) (hv2 : bootBuiltins "set" = some (.type "set")) (he : DE X e we)
    (s1 : starEach [e] X.env = [(false, eval e X.env)] := by rfl) (s2 : starEach [.Call (.Name "set" p2) [e] [] pos2] X.env = [(false, eval (.Call (.Name "set" p2) [e] [] pos2) X.env)] := by rfl) : DE X (.Call (.Name "sorted" p) [.Call (.Name "set" p2) [e] [] pos2] [] pos) (wSortSetI we) := by
  refine pe_imp (pe_callB (cr_sortI hc) hg hm hv (pa_cons (pe_callTy (cr_setZ hc (Z := skInt X.prog X.w) (kv := V.int) fun r => ints_at2 r) hg2 hm2 hv2 (pa_cons he pa_nil s1) (he := s1)) pa_nil s2) (he := s2)) fun σ H Q h => ?_
  obtain ⟨sd, S, Q0, st, q, an⟩ := h
  refine ⟨sd, S, _, st, q, fun x S1 v H1 q1 n1 t1 r1 => ?_⟩
  obtain ⟨ss, ex, few, q1⟩ := q1
  obtain ⟨a, vs, rfl, hq, rv⟩ := lstX_at t1 r1 ex
  have ev := rels_ints rv
  subst ev
  refine ⟨a, ss, rfl, hq, few, fun p n hp hn => ⟨p, _, n, rfl, upd_same, by omega, fun ks p2 nd so me hp2 => ?_⟩⟩
  exact an.nx n1 _ _ _ _ (q1 ks nd so fun k => (me k).trans decide_eq_true_iff) ((nx_new hp).trans (nx_new hp2)) ((t1.new hp).new hp2) ⟨p2, _, rfl, (t1.new hp).free hp2, upd_same, rels_of_ints ks⟩
end
end L2.DL

/-! DL43: len(set(t)), t a tuple of texts -/
namespace L2.DL
open PySem PySem.Spec PyProof.Rows
section
variable {P : Program} {w : World} {K : Type} [DecidableEq K] {Z : SK P w K} {A : Around} {E : Value → Shared → Prop} {s : Shared} {a : Addr} {M : K → Bool} {n : Nat}
theorem SK.Is.count {h : Heap} {ks : List K} (R : Z.Is h a (fun j => decide (j ∈ ks)) n) (nd : ks.Nodup) : n = ks.length := by
  obtain ⟨o, l, ep, t, _, _, _, T⟩ := R
  have pm : (Z.keys l).Perm ks := (List.perm_ext_iff_of_nodup T.nd nd).mpr fun k => (T.mem k).symm.trans decide_eq_true_iff
  have := pm.length_eq
  unfold SK.keys at this
  rw [List.length_map, Array.length_toList, T.sz] at this
  exact this
end
section
variable {X : Cx} {K : Type} [DecidableEq K]
end
end L2.DL

/-! DL44: dict(zip(ks, xs)) of two lists, the keys texts -/
namespace L2.DL
open PySem PySem.Spec PyProof.Rows
section
variable {K : PySem.W.Frag} {S : SO} {H : Hp}
end
section
variable {X : Cx}
end
end L2.DL

/-! DL45: xs[k::m] of lists; list + list as a list that changes -/
namespace L2.DL
open PySem PySem.Spec PyProof.Rows
section
variable {X : Cx}
/-! ### + as a new object -/
/-! ### xs[k::m] -/
end
end L2.DL

/-! DL46: dicts locked behind a statement (.fd), d.items() of these, d != {}, d.setdefault -/
namespace L2.DL
open PySem PySem.Spec PyProof.Rows
/-! ### locked behind a statement -/
section
variable {X : Cx}
end
section
variable {X : Cx}
end
/-! ### items -/
section
variable {X : Cx} {pins : List (Addr × Obj)} {σ : St} {H : Hp} {s : Shared} {d : Addr} {o : Obj}
end
section
variable {P : Program} {w : World} {K : PySem.W.Frag} {d : Addr} {o : Obj} {es : Array DictEntry} {ep : Nat}
end
section
variable {X : Cx} {e : Expr} {td : TE} {apos cpos : Pos}
end
end L2.DL

/-! DL47: over data: d.items() of a locked dict, d != {}, d.setdefault(k, x) -/
namespace L2.DL
open PySem PySem.Spec PyProof.Rows
section
variable {K : PySem.W.Frag} {S : SO} {H : Hp}
theorem RelK.at : ∀ {kvs : List (D × D)} {l : List (Key × V)} {i : Nat} {q : Key} {v : V}, RelK K S H kvs l → l[i]? = some (q, v) → ∃ d, kvs[i]? = some (keyD q, d) ∧ Rel K S H d v
  | [], l, i, q, v, h, e => by
    have el : l = [] := h
    subst el
    simp at e
  | (k, d) :: kvs, l, 0, q, v, h, e => by
    obtain ⟨q', v', r, rfl, rfl, h1, h2⟩ := h
    cases e
    exact ⟨d, rfl, h1⟩
  | (k, d) :: kvs, l, i + 1, q, v, h, e => by
    obtain ⟨q', v', r, rfl, rfl, h1, h2⟩ := h
    exact RelK.at (i := i) h2 e
theorem RelT.at : ∀ {kvs : List (D × D)} {l : List (List Key × V)} {i : Nat} {q : List Key} {v : V}, RelT K S H kvs l → l[i]? = some (q, v) → ∃ d, kvs[i]? = some (.tup (q.map keyD), d) ∧ Rel K S H d v
  | [], l, i, q, v, h, e => by
    have el : l = [] := h
    subst el
    simp at e
  | (k, d) :: kvs, l, 0, q, v, h, e => by
    obtain ⟨q', v', r, rfl, rfl, h1, h2⟩ := h
    cases e
    exact ⟨d, rfl, h1⟩
  | (k, d) :: kvs, l, i + 1, q, v, h, e => by
    obtain ⟨q', v', r, rfl, rfl, h1, h2⟩ := h
    exact RelT.at (i := i) h2 e
theorem key_rel (q : Key) : Rel K S H (keyD q) (kV q) := by
  cases q <;> exact rfl
end
section
variable {X : Cx} {e : Expr} {we : WE} {apos cpos : Pos}
/-! ### d != {} -/
/-! ### d.setdefault(k, x) -/
/-! ### d.get(k, x) -/
/-! ### name = {k: v for ..}, the dict an object -/
end
end L2.DL

/-! DL48: dict comprehensions with two for -/
namespace L2.DL
open PySem PySem.Spec PyProof.Rows
section
variable {prog : Program} {w : World} {A : Around} {R : Result → Shared → Prop} {s : Shared} {kx vx t0 i0 t1 i1 : Expr} {ifs0 ifs1 : List Expr} {scope : Scope} {pos : Pos} {it : Value} {D : Addr} {env : Env}
end

section
variable {X : Cx}
/-! ### .. over data -/
end
end L2.DL

/-! DL49: {**a, **b} of locked dicts with keys ints and texts, list(dict), for key in dict -/
namespace L2.DL
open PySem PySem.Spec PyProof.Rows
/-! ### a dict merged into another one by a display -/
section
variable {prog : Program} {w : World} {A : Around} {E : Value → Shared → Prop} {s : Shared}
end
section
variable {X : Cx}
/-! ### .. over data -/
/-! ### for key in a locked dict -/
def kysD (kvs : List (D × D)) : List D := kvs.map (·.1)
/-! ### list(dict) -/
theorem RelK.keys {K : PySem.W.Frag} {S : SO} {H : Hp} : ∀ {ys : List (D × D)} {l : List (Key × V)}, RelK K S H ys l → Rels K S H (kysD ys) (l.map fun p => kV p.1)
  | [], l, h => by
    have e : l = [] := h
    subst e
    rfl
  | (k, d) :: ys, l, h => by
    obtain ⟨q, v, r, rfl, rfl, _, h2⟩ := h
    exact ⟨_, _, rfl, key_rel q, RelK.keys (ys := ys) h2⟩
end
end L2.DL

/-! DL50: list(d.values()) of a locked dict, range(a, b, -1), dict(pairs) as an object -/
namespace L2.DL
open PySem PySem.Spec PyProof.Rows
def vlsD (kvs : List (D × D)) : List D := kvs.map (·.2)
theorem RelK.vals {K : PySem.W.Frag} {S : SO} {H : Hp} : ∀ {ys : List (D × D)} {l : List (Key × V)}, RelK K S H ys l → Rels K S H (vlsD ys) (l.map fun p => p.2)
  | [], l, h => by
    have e : l = [] := h
    subst e
    rfl
  | (k, d) :: ys, l, h => by
    obtain ⟨q, v, r, rfl, rfl, h1, h2⟩ := h
    exact ⟨_, _, rfl, h1, RelK.vals (ys := ys) h2⟩
section
variable {X : Cx}
/-! ### range(a, b, -1) -/
/-! ### dict(pairs), an object -/
end
/-! ### max, min of a tuple of ints -/
section
variable {prog : Program} {w : World} {A : Around} {E : Value → Shared → Prop} {s : Shared}
theorem max_rawT {l : Addr} {its : List Value} {ns : List Int} {Q : Value → Shared → Prop} (hh : A.handled = none) (hl : s.heap.IsTuple l its.toArray) (hi : IntsAre its ns) (hne : 0 < ns.length)
    (h : ∀ h' tk M t', (∀ b o, s.heap.get? b = some o → h'.get? b = some o) → M ∈ ns → (∀ a, a ∈ ns → a ≤ M) → Q (.int M t') { s with heap := h', toks := tk }) : wpAny (model prog w) A (call (.builtin "max") [.ref l]) Q E s := by
  obtain ⟨xs, e⟩ := hi.allInts.items
  have hn : numsOf (intItems xs).toList = ns := by rw [← e]; exact hi.numsOf
  rw [nums_intItems] at hn
  subst hn
  rw [e] at hl
  have hsz : 0 < xs.size := by simpa using hne
  have hlt : l < s.heap.objs.size := by obtain ⟨_, e, _⟩ := hl; exact Heap.lt_size e
  refine call_max_walk (wpAny_pyIter_tuple hl ?_)
  refine ⟨_, _, _, _, _, _, _, rfl, Walks.tuple (A := A.in1) hh _ l (Nat.ne_of_lt hlt) (intItems xs), ⟨⟨_, Heap.get?_push_size _ rfl, rfl, rfl⟩, hl.push _⟩, fun b hb => ?_, by simpa [intItems] using hsz, CmpOf.ints_gt (numAt xs) (fun _ _ => intItems_at), fun v h' tk hv hk => ?_⟩
  · show b < (s.heap.push _).objs.size
    rw [Heap.size_push]
    rcases List.mem_cons.mp hb with rfl | hb
    · exact Nat.lt_succ_self _
    · rcases List.mem_cons.mp hb with rfl | hb
      · exact Nat.lt_succ_of_lt hlt
      · cases hb
  · obtain ⟨t, rfl⟩ := intItems_at hv
    obtain ⟨h1, h2⟩ := argBest_gt (numAt xs) (xs.size - 1)
    refine h h' tk _ t (fun b o e => hk b o (fun hm => ?_) (Heap.get?_push_of_some _ e)) ?_ fun a ha => ?_
    · have e2 := Heap.lt_size e
      rw [List.mem_singleton.mp hm] at e2
      exact absurd e2 (Nat.lt_irrefl _)
    · have e1 : (intItems xs).size - 1 = xs.size - 1 := by simp [intItems]
      rw [e1, numAt_eq]; exact PySem.getD_mem (by rw [List.length_map, Array.length_toList]; omega)
    · obtain ⟨j, hj, rfl⟩ := mem_getD ha
      rw [List.length_map, Array.length_toList] at hj
      have e1 : (intItems xs).size - 1 = xs.size - 1 := by simp [intItems]
      rw [e1, ← numAt_eq]; exact h2 j (by omega)
end
section
variable {X : Cx}
def cMaxT : WL := fun xs S Q => ∃ ns : List Int, xs = [.tup (ns.map D.int)] ∧ ns ≠ [] ∧ ∀ m, IsMax ns m → Q (.int m) S
theorem tup_sq {K : PySem.W.Frag} {S : SO} {H : Hp} {ds : List D} {v : V} (r : Rel K S H (.tup ds) v) : ∃ a vs, v = .ref a ∧ SqT K H a vs ∧ Rels K S H ds vs := by
  obtain ⟨a, vs, e, t, rv⟩ := r
  exact ⟨a, vs, e, t.sq, rv⟩
theorem dc_maxT (hc : X.calm = true) : DC X (.builtin "max") cMaxT := by
  intro pins s σ H xs us Q I r ⟨ds, S, Q0, sr, rs, q, an⟩
  obtain ⟨ns, rfl, hne, q⟩ := q
  obtain ⟨v, rfl, rv⟩ := rs.v1
  obtain ⟨a, vs, rfl, hq, rns⟩ := tup_sq rv
  rw [rels_ints rns] at hq
  obtain ⟨its, ri, hl, _⟩ := I.tuple hq
  rw [Vals.ref1 r]
  exact max_rawT (I.ok.hd hc) hl ri.ints (List.length_pos_iff.mpr hne) fun h' tk m t' hk h1 h2 => ⟨.int _, H, I.kept hk, ⟨_, rfl⟩, ansd (.int m) sr an (q m ⟨h1, h2⟩) rfl⟩
end
end L2.DL

/-! DL51: dict(zip(tuple of texts, tuple)) -/
namespace PySem
open PySem PySem.Calls PyProof.Rows PyProof.V PySem.Spec
section
variable {prog : Program} {w : World} {A : Around} {E : Value → Shared → Prop} {s : Shared}
end
section
variable {prog : Program} {w : World}
end
end PySem
namespace L2.DL
open PySem PySem.Spec PyProof.Rows
section
variable {X : Cx}
end
end L2.DL

/-! DL52: slices of a tuple of any kind, the whole one told too; + of tuples, one of them empty too -/
namespace L2.DL
open PySem PySem.Spec PyProof.Rows
section
variable {X : Cx}
def WholeS (n : Nat) (lo hi : Option Int) : Prop := HT.sIx n 0 lo = 0 ∧ HT.sIx n n hi = n
def sliT (d : D) (S : SO) (lo hi : Option Int) (Q : KD) : Prop := ∃ xs, asTup d = some xs ∧ (WholeS xs.length lo hi → Q d S) ∧ (¬ WholeS xs.length lo hi → Q (.tup (cutD xs lo hi)) S)
theorem sl_T : SlR X (fun x lo hi H Q => ∃ d S Q0, SRel X.K S H ∧ Rel X.K S H d x ∧ sliT d S lo hi Q0 ∧ Ans X.K S H Q0 Q) := by
  intro pins s σ H x v vl vu lo hi sl Q I rx hs pl pu ⟨d, S, Q0, sr, r, ⟨xs, e, q1, q2⟩, an⟩
  obtain ⟨a, vs, e1, t, rv⟩ := asTup_at r e
  refine sl_tupA pins s σ H x v vl vu lo hi sl Q I rx hs pl pu ⟨a, vs, e1, t, fun hw => ?_, fun hw p hp => ?_⟩
  · have q := q1 (by unfold WholeS; rw [rv.length]; exact hw)
    rw [← e1]
    exact ansd d sr an q r
  · have q := q2 (by unfold WholeS; rw [rv.length]; exact hw)
    exact an _ _ _ _ q (nx_new hp) (sr.new hp) ⟨p, _, rfl, ⟨sr.free hp, upd_same⟩, (rv.cut lo hi).nx (nx_new hp)⟩
def oAddE : WO := fun x y S Q => ∃ a b, asTup x = some a ∧ asTup y = some b ∧ a.length + b.length ≤ 1000000 ∧ (a = [] → Q y S) ∧ (b = [] → Q x S) ∧ (a ≠ [] → b ≠ [] → Q (.tup (a ++ b)) S)
theorem do_addE : DO2 X (binaryOp .Add) oAddE := by
  intro pins s σ H x y v u Q I rx ry ⟨dx, dy, S, Q0, sr, r1, r2, ⟨a, b, h1, h2, hl, qa, qb, q⟩, an⟩
  obtain ⟨p1, vs, e1, t1, rv⟩ := asTup_at r1 h1
  obtain ⟨p2, us, e2, t2, ru⟩ := asTup_at r2 h2
  have rvu := rv.app ru
  have l1 := rv.length
  have l2 := ru.length
  refine op_catA pins s σ H x y v u Q I rx ry ⟨p1, p2, vs, us, e1, e2, t1, t2, by rw [← l1, ← l2]; exact le_line hl, fun e => ?_, fun _ e => ?_, fun n1 n2 p hp => ?_⟩
  · subst e
    rw [← e2]
    exact ansd dy sr an (qa (List.length_eq_zero_iff.mp l1)) r2
  · subst e
    rw [← e1]
    exact ansd dx sr an (qb (List.length_eq_zero_iff.mp l2)) r1
  · have na : a ≠ [] := fun e => n1 (by rw [e] at l1; exact List.length_eq_zero_iff.mp l1.symm)
    have nb : b ≠ [] := fun e => n2 (by rw [e] at l2; exact List.length_eq_zero_iff.mp l2.symm)
    exact an _ _ _ _ (q na nb) (nx_new hp) (sr.new hp) ⟨p, _, rfl, ⟨sr.free hp, upd_same⟩, rvu.nx (nx_new hp)⟩
end
end L2.DL

/-! DL53: t[i:j] as a tuple known to have no dict; text.split(sep); C(..) through a parameter; C.m(..), m a classmethod -/
namespace L2.DL
open PySem PySem.Spec PyProof.Rows
section
variable {X : Cx}
/-! ### slices as .tf -/
def wSlF (we : WE) (tl th : WP) : WE := fun sd S Q => we sd S fun d S1 => tl sd S1 fun lo S2 => th sd S2 fun hi S3 => ∃ xs, asTup d = some xs ∧ ¬ WholeS xs.length lo hi ∧ Q (.tf (cutD xs lo hi)) S3
theorem sl_F : SlR X (fun x lo hi H Q => ∃ d S Q0, SRel X.K S H ∧ Rel X.K S H d x ∧ (∃ xs, asTup d = some xs ∧ ¬ WholeS xs.length lo hi ∧ Q0 (.tf (cutD xs lo hi)) S) ∧ Ans X.K S H Q0 Q) := by
  intro pins s σ H x v vl vu lo hi sl Q I rx hs pl pu ⟨d, S, Q0, sr, r, ⟨xs, e, hw, q⟩, an⟩
  obtain ⟨a, vs, e1, t, rv⟩ := asTup_at r e
  subst e1
  cases rx
  obtain ⟨its, r, ht, hz⟩ := I.tuple t
  have hlen : its.toArray.size = vs.length := by rw [List.size_toArray]; exact r.length.symm
  have hf := I.hok.fresh (Nat.le_refl _)
  refine ⟨"tuple", _, PyProof.Rows.slot_tuple_getitem.lookup, ht.typeIs, ?_⟩
  refine HT.getItem_tuple_cut ht hs pl pu (by rw [hlen, ← rv.length]; exact hw) ?_ (by rw [hlen]; exact hz)
  rw [hlen]
  refine ⟨.ref s.heap.objs.size, _, I.laid (t' := s.toks) (o := .frz { cls := .type "tuple", data := .seq ((its.toArray.toList.drop (HT.sIx vs.length 0 lo)).take (HT.sIx vs.length vs.length hi - HT.sIx vs.length 0 lo)).toArray } (.tup (cutV vs lo hi))) (fun b ob q => Heap.get?_push_of_some _ q) (Nat.le_refl _) ?_, rfl, an _ _ _ _ q (nx_new hf) (sr.new hf) ⟨_, cutV vs lo hi, rfl, ⟨sr.free hf, _, upd_same, rfl, rfl⟩, (rv.cut lo hi).nx (nx_new hf)⟩⟩
  exact ⟨Heap.get?_push_size _ rfl, Nat.le_trans (cutV_length vs lo hi) hz, _, (r.drop (HT.sIx vs.length 0 lo)).take (HT.sIx vs.length vs.length hi - HT.sIx vs.length 0 lo), IsTup.new _ _⟩
theorem de_slF {a : Expr} {lo hi : Option Expr} {we : WE} {tl th : WP} {pos p2 : Pos} (ha : DE X a we) (hl : DP X lo tl) (hh : DP X hi th) : DE X (.Subscript a (.Slice lo hi none p2) pos) (wSlF we tl th) :=
  pe_imp (pe_slice sl_F ha hl hh) fun σ H Q ⟨sd, S, Q0, st, q, an⟩ => ⟨sd, S, _, st, q, fun d S1 v H1 q1 n1 s1 r1 => ⟨sd, S1, _, st.nx n1 s1, q1, fun o S2 H2 q2 n2 s2 => ⟨sd, S2, _, (st.nx n1 s1).nx n2 s2, q2, fun o3 S3 H3 q3 n3 s3 =>
    ⟨d, S3, Q0, s3, (Rel.nx (n2.trans n3) _ _ r1), q3, an.nx (n1.trans (n2.trans n3))⟩⟩⟩⟩
theorem xSlF {we : WE} {tl th : WP} {sd : SD} {S : SO} {Q : KD} (h : we sd S fun d S1 => tl sd S1 fun lo S2 => th sd S2 fun hi S3 => ∃ xs, asTup d = some xs ∧ ¬ WholeS xs.length lo hi ∧ Q (.tf (cutD xs lo hi)) S3) : wSlF we tl th sd S Q := h
/-! ### text.split(sep) -/
def wSplit (wo we : WE) : WE := fun sd S Q => wo sd S fun d S1 => (∃ a, d = .str a) ∧ we sd S1 fun e S2 => ∃ a b : Str, d = .str a ∧ e = .str b ∧ (b.length == 0) = false ∧ a.length ≤ 1000000 ∧ Q (.lst ((Txt.split a b).map D.str)) S2
theorem de_split {o e : Expr} {wo we : WE} {apos pos : Pos} (ho : DE X o wo) (he : DE X e we) (hs : starEach [e] X.env = [(false, eval e X.env)] := by rfl) (hbase : attributeBase o "split" X.env (eval o X.env) = eval o X.env := by rfl) (hline : (apos.endLine == pos.line) = true := by rfl) :
    DE X (.Call (.Attribute o "split" apos) [e] [] pos) (wSplit wo we) :=
  pe_imp (pe_split ho he hs hbase hline) fun σ H Q ⟨sd, S, Q0, st, q, an⟩ => ⟨sd, S, _, st, q, fun d S1 v H1 ⟨⟨a, ea⟩, q1⟩ n1 s1 r1 => by
    subst ea
    have ev : v = .str a := r1
    subst ev
    refine ⟨⟨a, rfl⟩, sd, S1, _, st.nx n1 s1, q1, fun e S2 u H2 ⟨a', b, e1, e2, hb, hl, q2⟩ n2 s2 r2 => ?_⟩
    cases e1
    subst e2
    have eu : u = .str b := r2
    subst eu
    refine ⟨a, b, rfl, rfl, hb, by rw [sizeLine_eq]; omega, fun p hp => ?_⟩
    exact an _ _ _ _ q2 (n1.trans (n2.trans (nx_new hp))) (s2.new hp) ⟨p, _, rfl, s2.free hp, upd_same, (rels_of_strs _).nx (nx_new hp)⟩⟩
end
/-! ### C(..), C told by a parameter -/
section
variable {X : Cx} {CX : CXT} {k : Nat} {f C : Addr} {fd : FuncData} {ps : List Str} {sp : Sp} {dvs : List V} {ds : List Value} {E : XK} {x m : Str} {p pos apos : Pos} {e o : Expr} {es : List Expr} {ta : TE} {t : TA}
theorem peG_makeV (hc : PE X (.Name x p) ta) (M : Mk X.K C f) (F : FnG X.prog X.w X.K X.mg X.base CX k f fd ps sp) (hr : Room (k + 1) X.A) (gd : X.A.guards = some []) (hb : Binds X.K fd ps ds) (hd : Vals dvs ds) (hx : Passes CX X E)
    (ha : PA X (e :: es) t) (he : starEach (e :: es) X.env = (false, eval e X.env) :: starEach es X.env := by rfl) (hpl : (backTo pos (starEach es X.env)).any (·.1) = false := by rfl) :
    PE X (.Call (.Name x p) (e :: es) [] pos) (fun σ H Q => ta σ H fun v H1 => v = .ref C ∧ tMake C sp dvs E t σ H1 Q) := by
  refine ⟨fun pins s σ H Q I h => wpAny_Call_Name_kw (thn (hc.run pins s σ H _ I h) fun u s1 ⟨v, H1, I1, r1, e1, q1⟩ => ?_)⟩
  subst e1
  obtain rfl : u = Value.ref C := r1
  refine PySem.W.callWith_K (h₀ := X.base) I.ok.mod.kin M.kp (thn (ha.run pos pins s1 σ H1 _ I1 q1) fun us s2 ⟨vs, H2, I2, r, q⟩ => ⟨I2.kIn, ?_⟩) he hpl
  exact runMk (args := ⟨us, []⟩) (us := us ++ ds) M F hr gd hx I2 (fun s' x kx hl => hb s' (x :: us) kx hl) (r.append hd) q
/-! ### C.m(..), m a classmethod -/
open ClX in
theorem run_cmG {pins : List (Addr × Obj)} {σ : St} {H : Hp} {s : Shared} {g : Addr} {q : Addr} {Q : VK} {us : List Value} {vs : List V} (F : FnG X.prog X.w X.K X.mg X.base CX k g fd ps sp) (hr : Room k X.A) (gd : X.A.guards = some []) (hb : Binds X.K fd ps ds) (hd : Vals dvs ds) (hx : Passes CX X E)
    (I : Inv X ((q, PySem.W.methodObj (.ref g) (.ref C)) :: pins) σ H s) (r : Vals vs us) (h : sp ((.ref C :: vs) ++ dvs) H Q E) : wpAny (model X.prog X.w) X.A (call (.ref q) us) (EP X pins σ Q) X.xe s := by
  have r1 : Vals (.ref C :: vs) (.ref C :: us) := .cons rfl r
  have r2 := r1.append hd
  have z : wpAny (model X.prog X.w) X.A (call (.ref q) us) (EP X ((q, PySem.W.methodObj (.ref g) (.ref C)) :: pins) σ Q) X.xe s := by
    refine wpAny_call (PySem.W.method_call (pin_at I) (codeAny_mono (F.go X.A X.stack s H ⟨.ref C :: us, []⟩ _ _ Q E hr gd I.env0 (hb s (.ref C :: us) I.kIn (by rw [← r2.length]; exact F.len _ _ _ _ h)) r2 h) fun rs s' hq => ?_))
    have z := CE.call I hx hq
    cases rs with
    | error er => exact z
    | ok fl =>
      cases fl with
      | ret u => exact z
      | next => exact z.elim
      | brk => exact z.elim
      | cont => exact z.elim
  exact thn z fun _ _ y => unpinE y
open ClX in
theorem peG_cmeth {g cp : Addr} {mc : Value} {pl : Sem Bool} (ho : PE X o ta) (r : CRead X.K C mc) (c : CMet X.K C mc m cp g) (F : FnG X.prog X.w X.K X.mg X.base CX k g fd ps sp) (hr : Room k X.A) (gd : X.A.guards = some []) (hb : Binds X.K fd ps ds) (hd : Vals dvs ds) (hx : Passes CX X E) (ha : PA X (e :: es) t)
    (hst : starEach (e :: es) X.env = (false, eval e X.env) :: starEach es X.env := by rfl) (hpl : (backTo pos (starEach es X.env)).any (·.1) = false := by rfl) (ht : MethTree X o m apos pos pl (e :: es) := by rfl) :
    PE X (.Call (.Attribute o m apos) (e :: es) [] pos) (fun σ H Q => ta σ H fun v H1 => v = .ref C ∧ t σ H1 fun vs H2 => sp ((.ref C :: vs) ++ dvs) H2 Q E) := by
  refine ⟨fun pins s σ H Q I h => ?_⟩
  refine PySem.W.methodCall_KW (pl := pl) (thn (ho.run pins s σ H _ I h) fun u s1 ⟨x, H1, I1, rx, ex, q⟩ => ?_) ht
  subst ex
  obtain rfl : u = Value.ref C := rx
  refine getmethcm_ok I1 r c fun s2 I2 => ?_
  refine callwith_cm I2 (base_none I1 (Nat.le_refl _)) c.fi (thn (ha.run pos _ s2 σ H1 _ I2 q) fun us s3 ⟨vs, H2, I3, rv, q2⟩ => ⟨⟨pin_at I3, I3.kIn⟩, ?_⟩) hst hpl
  exact run_cmG F hr gd hb hd hx I3 rv q2
variable {dsp : DSp} {dds : List D} {wt : WA} {wo wc : WE}
def wMakeV (C : Addr) (sp : DSp) (dds : List D) (wc : WE) (t : WA) : WE := fun sd S Q => wc sd S fun d S1 => d = .obj C ∧ wMakeF C sp dds t sd S1 Q
theorem de_makeV (hc : DE X (.Name x p) wc) (M : Mk X.K C f) (F : FnD X.prog X.w X.K X.mg X.base k f fd ps dsp) (hr : Room (k + 1) X.A) (gd : X.A.guards = some []) (hb : Binds X.K fd ps ds) (hd : Vals dvs ds) (hl : Lits dds dvs) (ha : DA X (e :: es) wt)
    (he : starEach (e :: es) X.env = (false, eval e X.env) :: starEach es X.env := by rfl) (hpl : (backTo pos (starEach es X.env)).any (·.1) = false := by rfl) : DE X (.Call (.Name x p) (e :: es) [] pos) (wMakeV C dsp dds wc wt) :=
  pe_imp (peG_makeV hc M F hr gd hb hd (E := E0) pass0 ha he hpl) fun σ H Q ⟨sd, S, Q0, st, q, an⟩ => ⟨sd, S, _, st, q, fun d S1 v H1 ⟨e1, q1⟩ n1 s1 r1 => by
    subst e1
    refine ⟨r1, sd, S1, _, st.nx n1 s1, q1, fun xs S2 vs H2 q2 n2 s2 r2 => fun y dx ny nd ne => ?_⟩
    obtain ⟨n3, s3⟩ := make_srel (C := C) s2 ny nd ne
    refine ⟨.obj y :: (xs ++ dds), _, _, NoE, s3, ⟨.ref y, _, rfl, rfl, (r2.nx n3).app (hl _ _ _)⟩, q2 y (s2.free ny), fun d S4 v H4 ⟨e1, fs, hS, q3⟩ n4 s4 r4 => ?_, noE_ans⟩
    subst e1
    obtain ⟨n5, s5, r5⟩ := frz_ins s4 hS
    exact ⟨r4, an _ _ _ _ q3 (n1.trans (n2.trans (n3.trans (n4.trans n5)))) s5 r5⟩⟩
theorem xMakeV {sd : SD} {S : SO} {Q : KD} (h : wc sd S fun d S1 => d = .obj C ∧ wMakeF C dsp dds wt sd S1 Q) : wMakeV C dsp dds wc wt sd S Q := h
def wCMeth (C : Addr) (sp : DSp) (dds : List D) (wo : WE) (t : WA) : WE := fun sd S Q => wo sd S fun d S1 => d = .obj C ∧ t sd S1 fun xs S2 => sp ((.obj C :: xs) ++ dds) S2 Q NoE
open ClX in
theorem de_cmeth {g cp : Addr} {mc : Value} {pl : Sem Bool} (ho : DE X o wo) (r : CRead X.K C mc) (c : CMet X.K C mc m cp g) (F : FnD X.prog X.w X.K X.mg X.base k g fd ps dsp) (hr : Room k X.A) (gd : X.A.guards = some []) (hb : Binds X.K fd ps ds) (hd : Vals dvs ds) (hl : Lits dds dvs) (ha : DA X (e :: es) wt)
    (hst : starEach (e :: es) X.env = (false, eval e X.env) :: starEach es X.env := by rfl) (hpl : (backTo pos (starEach es X.env)).any (·.1) = false := by rfl) (ht : MethTree X o m apos pos pl (e :: es) := by rfl) :
    DE X (.Call (.Attribute o m apos) (e :: es) [] pos) (wCMeth C dsp dds wo wt) :=
  pe_imp (peG_cmeth ho r c F hr gd hb hd (E := E0) pass0 ha hst hpl ht) fun σ H Q ⟨sd, S, Q0, st, q, an⟩ => ⟨sd, S, _, st, q, fun d S1 v H1 ⟨e1, q1⟩ n1 s1 r1 => by
    subst e1
    exact ⟨r1, sd, S1, _, st.nx n1 s1, q1, fun xs S2 vs H2 q2 n2 s2 r2 => ⟨(.obj C :: xs) ++ dds, S2, Q0, NoE, s2, Rels.app (show Rels X.K S2 H2 (.obj C :: xs) (.ref C :: vs) from ⟨_, _, rfl, rfl, r2⟩) (hl _ _ _), q2, an.nx (n1.trans n2), noE_ans⟩⟩⟩
theorem xCMeth {sd : SD} {S : SO} {Q : KD} (h : wo sd S fun d S1 => d = .obj C ∧ wt sd S1 fun xs S2 => dsp ((.obj C :: xs) ++ dds) S2 Q NoE) : wCMeth C dsp dds wo wt sd S Q := h
end
end L2.DL

/-! DL54: + of tuples, the sum known to have no dict, one of them empty too -/
namespace L2.DL
open PySem PySem.Spec PyProof.Rows
section
variable {X : Cx}
def oAddG : WO := fun x y S Q => ∃ a b, asTup x = some a ∧ asTup y = some b ∧ a.length + b.length ≤ 1000000 ∧ (a = [] → Q y S) ∧ (b = [] → Q x S) ∧ (a ≠ [] → b ≠ [] → Q (.tf (a ++ b)) S)
theorem do_addG : DO2 X (binaryOp .Add) oAddG := by
  intro pins s σ H x y v u Q I rx ry ⟨dx, dy, S, Q0, sr, r1, r2, ⟨a, b, h1, h2, hl, qa, qb, q⟩, an⟩
  by_cases na : a = []
  · exact do_addE pins s σ H x y v u Q I rx ry ⟨dx, dy, S, Q0, sr, r1, r2, ⟨a, b, h1, h2, hl, qa, qb, fun z => absurd na z⟩, an⟩
  · by_cases nb : b = []
    · exact do_addE pins s σ H x y v u Q I rx ry ⟨dx, dy, S, Q0, sr, r1, r2, ⟨a, b, h1, h2, hl, qa, qb, fun _ z => absurd nb z⟩, an⟩
    · exact do_addF pins s σ H x y v u Q I rx ry ⟨dx, dy, S, Q0, sr, r1, r2, ⟨a, b, h1, h2, na, nb, hl, q na nb⟩, an⟩
theorem wh_lo {n k : Nat} : WholeS n (some (k : Int)) none ↔ min k n = 0 := by
  unfold WholeS
  rw [sIxN]
  exact ⟨fun h => h.1, fun h => ⟨h, rfl⟩⟩
end
end L2.DL

/-! DL55: C.m(k = v), m a classmethod; != of two lists whose items are equal by an own == -/
namespace L2.DL
open PySem PySem.Spec PyProof.Rows
section
variable {X : Cx} {CX : CXT} {k : Nat} {f C : Addr} {fd : FuncData} {ps ks : List Str} {sp : Sp} {dvs : List V} {ds : List Value} {E : XK} {x m : Str} {p pos apos : Pos} {e o : Expr} {es : List Expr} {kws : List Keyword} {ta : TE} {t tk : TA} {g : List Value → List Value → List Value} {gV : List V → List V → List V}
variable {dsp : DSp} {wk : WA} {wo : WE} {gD : List D → List D → List D}
end
end L2.DL

/-! DL56: != of two lists whose items are equal by an own == -/
namespace GQN
open PySem PySem.SeqAt GQ
open AutoSeq1 (wpAny_loadPart')
open MeetsSeq MeetsSeq2 MeetsSeq3 SeqRoads2
section
variable {prog : Program} {w : World} {A : Around} {R : Result → Shared → Prop}
end
section
variable {prog : Program} {w : World} {A : Around} {E : Value → Shared → Prop} {s : Shared}
end
end GQN
namespace L2.DL
open PySem PySem.Spec PyProof.Rows
section
variable {X : Cx} {k : Nat} {g C : Addr} {fd : FuncData} {ps : List Str} {dsp : DSp}
end
end L2.DL

namespace L2.DL
open PySem PySem.Spec PyProof.Rows
def perm_10 {α : Type} (a b : List α) : List α := match a, b with
  | [], [x0, x1] => [x1, x0]
  | _, _ => []
theorem perm_10_of {α : Type} {a b : List α} (h : (perm_10 a b).length = 2) : a = [] ∧ ∃ x0 x1, b = [x0, x1] := by
  unfold perm_10 at h
  split at h
  · exact ⟨rfl, _, _, rfl⟩
  · cases h
theorem perm_10_rel {vs zs : List V} {us ws : List Value} (h1 : Vals vs us) (h2 : Vals zs ws) : Vals (perm_10 vs zs) (perm_10 us ws) := by
  cases h1 with
  | cons _ _ => exact .nil
  | nil =>
    cases h2 with
    | nil => exact .nil
    | cons h0 t0 =>
      cases t0 with
      | nil => exact .nil
      | cons h1 t1 =>
        cases t1 with
        | nil => exact (.cons h1 (.cons h0 .nil))
        | cons _ _ => exact .nil
theorem gd_10 : GD perm_10 perm_10 := fun K S H ds vs es us h1 h2 => by
  cases ds with
  | cons d ds =>
    obtain ⟨v, r, rfl, _, _⟩ := h1
    exact rfl
  | nil =>
    have e : vs = [] := h1
    subst e
    cases es with
    | nil =>
      have e : _ = [] := h2
      subst e
      exact rfl
    | cons d0 es0 =>
      obtain ⟨v0, u0, rfl, r0, q0⟩ := h2
      cases es0 with
      | nil =>
        have e : _ = [] := q0
        subst e
        exact rfl
      | cons d1 es1 =>
        obtain ⟨v1, u1, rfl, r1, q1⟩ := q0
        cases es1 with
        | nil =>
          have e : _ = [] := q1
          subst e
          exact ⟨_, _, rfl, r1, ⟨_, _, rfl, r0, rfl⟩⟩
        | cons d es =>
          obtain ⟨v, u, rfl, r, q⟩ := q1
          exact rfl
end L2.DL
/-! X0: own exceptions two levels below a built-in one, with super().__init__() and one or two fields: made, as a heap -/
namespace PySem
namespace ErrX
open PySem.W PySem.Calls PyProof.Rows PySem.HandSPX Builtin Builtin.ObjectAttr PySem.Spec
section
variable {prog : Program} {w : World} {A : Around} {E : Value → Shared → Prop} {h : Heap} {g : Array GenState} {d : Drawn} {t : Nat} {os : OsState}
variable {nm q : Str} {C N : Addr} {bs bm bmB : List Value} {hdct : Bool} {sn : List Str} {sub : List Value} {ab : Bool} {col : Option Bool} {dd : Option Addr} {k0 k1 k2 k3 k5 : Option Value} {B newId initId : String}
end
/-! ### the text of __init__ -/
section
variable {prog : Program} {w : World} {A : Around} {E : Value → Shared → Prop} {R : Result → Shared → Prop} {s : Shared} {K : Frag} {mg mb : Str → Option Value} {C fI : Addr} {B newId initId : String} {bmB : List Value} {g : Str}
end
end ErrX
end PySem

/-! X1: the walk of __init__(self, g): super().__init__(); self.g = g -/
namespace PySem
namespace ErrX
open PySem.W PySem.Calls PyProof.Rows PySem.HandSPX Builtin Builtin.ObjectAttr PySem.Spec
section
variable {prog : Program} {w : World} {A : Around} {E : Value → Shared → Prop} {R : Result → Shared → Prop} {s : Shared} {K : Frag} {mg mb : Str → Option Value} {C fI : Addr} {B newId initId : String} {bmB : List Value} {g : Str}
end
end ErrX
end PySem

/-! X2: an own exception of one field: made, raised, held as a value -/
namespace PySem
namespace ErrX
open PySem.W PySem.Calls PyProof.Rows PySem.HandSPX Builtin Builtin.ObjectAttr PySem.Spec
section
variable {prog : Program} {w : World} {A : Around} {E : Value → Shared → Prop} {R : Result → Shared → Prop} {s : Shared} {K : Frag} {mg mb : Str → Option Value} {C fI : Addr} {B newId initId : String} {bmB : List Value} {g : Str}
end
end ErrX
end PySem
namespace L2
open PySem PySem.Spec PyProof.Rows
/-- at a: an exception of the class at C, its own dict d -/
def ErrO (a C : Addr) (d : Option Addr) : HO := .ext fun h => ∃ (oe : Obj) (vs : Array Value), h.get? a = some oe ∧ oe.cls = .ref C ∧ oe.dict = d ∧ oe.data = .fields vs
section
variable {X : Cx} {C fI : Addr} {B newId initId : String} {bmB : List Value} {g n : Str}
end
end L2

/-! X3: an exception that was caught is a thing of ours: try .. except (a tuple of classes | one class) as n, the suite's context -/
namespace L2
open PySem PySem.Spec PyProof.Rows
section
variable {X : Cx} {pins : List (Addr × Obj)} {σ : St} {H : Hp} {sI s s' : Shared} {B : Heap} {a C : Addr} {d : Option Addr}
/-- back on the ground, the exception tracked -/
theorem Inv.landedE (I : Inv X pins σ H sI) (nb : ∀ b o, sI.heap.get? b = some o → b ∉ frs X.stack → B.get? b = some o) (st : B.StaysIn s'.heap) (up : sI.heap.UpToSlots s'.heap) (os : s'.os = sI.os) (ag : AllBare s'.gens)
    (na : H a = none) (nB : B.get? a = none) (nf : a ∉ frs X.stack) {oe : Obj} {vs : Array Value} (he : s'.heap.get? a = some oe) (h1 : oe.cls = .ref C) (h2 : oe.dict = d) (h3 : oe.data = .fields vs) : Inv X pins σ (upd H a (L2.DL.ErrO a C d)) s' := by
  have notin : ∀ {b : Addr} {o : Obj}, sI.heap.get? b = some o → b ≠ a := fun {b o} e z => by
    subst z
    rw [nb _ _ e nf] at nB
    cases nB
  have nfr : ∀ b ∈ frs X.stack, ∀ o, sI.heap.get? b = some o → ∃ sl, s'.heap.get? b = some { o with slots := sl } := fun b hb o e => by
    obtain ⟨_, o', e', hd⟩ := I.stack.mem hb
    rw [e] at e'; cases e'
    exact up b o e hd
  have nta : ∀ {b : Addr} {o : HO}, H b = some o → b ≠ a := fun {b o} e => ne_of_none e na
  have hok : HOk X.prog X.w (upd H a (L2.DL.ErrO a C d)) s'.heap := fun b o q => by
    by_cases hb : b = a
    · subst hb
      rw [upd_same] at q
      cases q
      exact ⟨⟨oe, vs, he, h1, h2, h3⟩, ⟨_, he⟩, fun h1 h2 z k => by
        obtain ⟨o, us, q, r⟩ := z
        exact ⟨o, us, k _ q, r⟩⟩
    · rw [upd_ne hb] at q
      exact ((I.inGround nb).kept st b o q).stay (fun c v hc z => z) (fun c z => by rw [upd_ne (nta z)]; exact z) fun c xs z => by rw [upd_ne (nta z)]; exact z
  have J := I.call (ch := []) (h' := s'.heap) (g' := s'.gens) (t' := s'.toks) (d' := s'.drawn) (H' := upd H a (L2.DL.ErrO a C d))
    ⟨fun b o e _ hb _ => st b o (nb b o e hb), fun b o e _ hb _ => nfr b hb o e, fun b o e n _ => by rw [upd_ne (notin e)]; exact n, fun b o e _ => by
      by_cases hb : b ∈ frs X.stack
      · obtain ⟨sl, q⟩ := nfr b hb o e
        exact ⟨_, q⟩
      · exact ⟨o, st b o (nb b o e hb)⟩, fun _ _ e => by rw [upd_ne (nta e)]; exact e, fun _ _ _ e => by rw [upd_ne (nta e)]; exact e, fun b ps e => ⟨#[], by rw [upd_ne (nta e), e]; simp⟩⟩
    hok ag (fun _ z => nomatch z)
  obtain ⟨a1, a2, a3, a4, a5⟩ := s'
  have e5 : a5 = sI.os := os
  subst e5
  exact J
/-- the context of a suite -/
abbrev Cx.suiteE (X : Cx) (a : Addr) (pn : List (Addr × Obj)) : Cx := { X with A := X.A.mark (some (.ref a)), calm := false, pn := pn, xe := fun _ _ => False }
theorem Inv.suiteE (I : Inv X pins σ H s) (a : Addr) : Inv (X.suiteE a (X.pn ++ pins)) [] σ H s :=
  ⟨⟨I.ok.mod, I.ok.kind, I.ok.glob, I.ok.blt, I.ok.above, I.ok.inj, I.ok.has, I.ok.cab, (fun z => absurd (show false = true from z) Bool.false_ne_true), I.ok.frames, I.ok.stk, I.ok.exf, I.ok.bs, I.ok.bsz, I.ok.noex, I.ok.exfs, I.ok.funs, I.ok.frf⟩,
    I.os, I.bare, I.base, I.loc, I.cell, I.free, I.freeC, fun p hp => I.pin p (by rw [List.append_nil] at hp; exact hp), I.hok, I.len⟩
theorem Inv.unsuiteE {a : Addr} {pn' : List (Addr × Obj)} (I : Inv (X.suiteE a (X.pn ++ pins)) pn' σ H s) (ok : X.Ok) : Inv X pins σ H s :=
  ⟨ok, I.os, I.bare, I.base, I.loc, I.cell, I.free, I.freeC, fun p hp => I.pin p (List.mem_append_left _ hp), I.hok, I.len⟩
end
end L2

/-! X4: try with any clauses; the caught exception is tracked in the suites -/
namespace L2
open PySem PySem.Spec PyProof.Rows
theorem flyZ_keeps {B h h' : Heap} {l : List Env} {e : Addr} {Z : Obj → Prop} (R : HandSPX.FlyingZ B l e Z h) (k : ∀ b o, h.get? b = some o → h'.get? b = some o) : HandSPX.FlyingZ B l e Z h' := by
  obtain ⟨f1, f2, f3, oe, ws, T, oT, ts, he, hc, hd, h1, hn, hne, hT, hdT, h3⟩ := R
  exact ⟨fun b o q => k b o (f1 b o q), f2, f3.of_keeps fun b o q _ => ⟨o, k b o q, rfl⟩, oe, ws, T, oT, ts, k _ _ he, hc, hd, h1, hn, hne, k _ _ hT, hdT, h3⟩
/-- the test of a clause: a class, or some classes -/
def TestE (X : Cx) (te : Expr) (cs : List Value) : Prop := ∀ (a : Addr) (pn pins : List (Addr × Obj)) (σ : St) (H : Hp) (s : Shared) (cls : Value) (b : Bool) (Q : Bool → Shared → Prop) (E : Value → Shared → Prop), Inv (X.suiteE a pn) pins σ H s →
  PySem.W.Looks (model X.prog X.w) s.heap (typeOf (.ref a)) cls → PySem.W.exmAny X.K cls cs = some b → (∀ h' : Heap, (∀ q o, s.heap.get? q = some o → h'.get? q = some o) → Q b { s with heap := h' }) →
  wpAny (model X.prog X.w) (X.A.mark (some (.ref a))) (eval te X.env) (fun c s1 => wpAny (model X.prog X.w) (X.A.mark (some (.ref a))) (excMatches (.ref a) c) Q E s1) E s
theorem ld_names {X : Cx} {x : Str} {c : Value} {np : Pos} (hc : Names X x c) {a : Addr} {pn pins : List (Addr × Obj)} {σ : St} {H : Hp} {s : Shared} {Q : Value → Shared → Prop} {E : Value → Shared → Prop} (I : Inv (X.suiteE a pn) pins σ H s) (q : Q c s) :
    wpAny (model X.prog X.w) (X.A.mark (some (.ref a))) (eval (.Name x np) X.env) Q E s := by
  obtain ⟨hg, hdbg, hm | ⟨hm, hv, hnn⟩⟩ := hc
  · exact ld_glob (X := X.suiteE a pn) I hg hm q hdbg
  · exact ld_blt (X := X.suiteE a pn) I hg hm hv q hnn hdbg
theorem test1 {X : Cx} {x : Str} {c : Value} {np : Pos} (hc : Names X x c) : TestE X (.Name x np) [c] := fun a pn pins σ H s cls b Q E I LT hx q => by
  obtain ⟨b1, d1, x1, y1, z1⟩ := PySem.W.exmAny_cons hx
  have w : some false = some d1 := y1
  cases w
  subst z1
  rw [Bool.or_false] at q
  exact ld_names hc I ((PySem.W.exm_one I.kIn LT x1).here (q s.heap fun _ _ z => z))
/-- a clause: the classes, the name's slot, what the suite reads -/
structure HdW where
  cs : List Value
  slot : Option Nat
  ts : Addr → TS
def Ends.gone (D : Ends) (i : Nat) : Ends := { nx := fun σ' H' => D.nx (σ'.set i none) H', rt := D.rt, bk := fun σ' H' => D.bk (σ'.set i none) H', ct := fun σ' H' => D.ct (σ'.set i none) H' }
/-- what the clauses wish of an exception of the body, one after the other -/
def wHdE (K : PySem.W.Frag) (Wout : WX) (D : Ends) : List HdW → WX
  | [] => Wout
  | h :: r => fun cls d σ H => ∃ b C, PySem.W.exmAny K cls h.cs = some b ∧ cls = .ref C ∧ (b = true → ∀ a, H a = none → match h.slot with
      | none => h.ts a D σ (upd H a (L2.DL.ErrO a C d))
      | some i => h.ts a (D.gone i) (σ.set i (some (.ref a))) (upd H a (L2.DL.ErrO a C d))) ∧ (b = false → wHdE K Wout D r cls d σ H)
inductive HdsE (X : Cx) : List ExceptHandler → List HdW → Prop
  | nil : HdsE X [] []
  | plain {te : Expr} {cs : List Value} {ts : Addr → TS} {b₀ : Stmt} {suite : List Stmt} {pos' : Pos} {hds : List ExceptHandler} {l : List HdW} (ht : TestE X te cs)
      (hsu : ∀ (a : Addr) (pn : List (Addr × Obj)), PSs (X.suiteE a pn) (b₀ :: suite) (ts a)) (r : HdsE X hds l) : HdsE X (.ExceptHandler (some te) none (b₀ :: suite) pos' :: hds) (⟨cs, none, ts⟩ :: l)
  | named {te : Expr} {cs : List Value} {ts : Addr → TS} {b₀ : Stmt} {suite : List Stmt} {pos' : Pos} {hds : List ExceptHandler} {l : List HdW} {n : Str} {i : Nat} (ht : TestE X te cs) (hN : X.N.Nodup) (hi : X.N[i]? = some n) (hln : X.env.kindOf n = some .local)
      (hsu : ∀ (a : Addr) (pn : List (Addr × Obj)), PSs (X.suiteE a pn) (b₀ :: suite) (ts a)) (r : HdsE X hds l) : HdsE X (.ExceptHandler (some te) (some n) (b₀ :: suite) pos' :: hds) (⟨cs, some i, ts⟩ :: l)
section
variable {X : Cx} {body : List Stmt} {h₀ : ExceptHandler} {hds : List ExceptHandler} {l : List HdW} {pos : Pos} {tb : WX → TS} {Wout : WX}
theorem ps_tryE (hs : X.stack = X.env :: X.outer) (hf : X.env.frame = some X.env.locals) (tk : Takes X Wout)
    (hb : ∀ (W : WX) (pn : List (Addr × Obj)) (xe : Value → Shared → Prop), Takes (X.tr pn xe) W → PassesOwn (model X.prog X.w) X.A X.env xe → PSs (X.tr pn xe) body (tb W))
    (hh : HdsE X (h₀ :: hds) l) : PS X (.Try body (h₀ :: hds) [] [] pos) (fun D σ H => tb (wHdE X.K Wout D l) D σ H) := by
  refine ⟨fun pins s σ H D I h => ?_⟩
  have ok := I.ok
  have hfr : X.A.frames = some (X.env :: X.outer) := by rw [ok.frames, hs]
  refine wpAny_Try_except ?_
  refine wpAny_mono ((hb (wHdE X.K Wout D l) (X.pn ++ pins) (fun e s₁ => wpAny (model X.prog X.w) X.A (noteFrame e X.env) (fun _ s₂ => wpAny (model X.prog X.w) X.A (setFlight e none) (fun _ s₃ =>
    wpAny (model X.prog X.w) X.A (handleBy e X.env (h₀ :: hds)) (SP X pins D) X.xe s₃) X.xe s₂) X.xe s₁) (fun u s' xx => ?_) PassesOwn.looking).run [] s σ H D (I.toTry _) h) (fun f s1 hsp => ?_) (fun e s1 he => he)
  · -- the catch
    obtain ⟨a, B, sI, pins', σ', H', cls, d, rfl, J', nb, up, sky, na, os, ag, w⟩ := xx
    have J : Inv X pins σ' H' sI := J'.ofTry ok
    have sky' : Sky B (X.env :: X.outer) a (Zc cls d) X.env.locals s'.heap := by rw [← hs]; exact sky
    show wpAny (model X.prog X.w) X.A (noteFrame (.ref a) X.env) _ _ _
    refine Sky.land Zc.steady hfr hf sky' fun h3 fl3 up3 => ?_
    have notFr : ∀ {h : Heap} {o : Obj} {vs : Array Value}, h.FunFrames B (X.env :: X.outer) → h.get? a = some o → o.data = .fields vs → a ∉ frs (X.env :: X.outer) := fun {h o vs} ff e dd hm => by
      obtain ⟨_, o', e', hnf⟩ := ff.mem hm
      rw [e] at e'; cases e'
      exact hnf _ dd
    have nfS : a ∉ frs X.stack := by
      obtain ⟨oe3, vs3, he3, hz3, hd3⟩ := fl3.there
      rw [hs]
      exact notFr fl3.2.2.1 he3 hd3
    have nB : B.get? a = none := fl3.2.1
    have go : ∀ {hds' : List ExceptHandler} {l' : List HdW}, HdsE X hds' l' → wHdE X.K Wout D l' cls d σ' H' → ∀ h5 : Heap, HandSPX.FlyingZ B (X.env :: X.outer) a (Zc cls d) h5 → sI.heap.UpToSlots h5 →
        wpAny (model X.prog X.w) X.A (handleBy (.ref a) X.env hds') (SP X pins D) X.xe { s' with heap := h5 } := by
      intro hds' l' hk
      induction hk with
      | nil =>
        intro w h5 fl5 up5
        refine wpAny_handleBy_nil ?_
        obtain ⟨k1, k2, k3, oe, vs, T, oT, ts', he, hz, hd, h1, hr⟩ := id fl5
        unfold PySem.passOn
        refine wpAny_bind (wpAny_field he hd h1 ?_)
        rw [if_neg (show ¬ ((Value.ref T == Value.none) = true) from by simp)]
        have fin : wpAny (model X.prog X.w) X.A (setFlight (.ref a) X.env.frame) (fun _ s4 => wpAny (model X.prog X.w) X.A (throw (.ref a) : Sem Flow) (SP X pins D) X.xe s4) X.xe { s' with heap := h5 } := by
          rw [hf]
          refine HandSPX.setFlight_upZ fl5 fun h4 hh4 up4 => wpAny_throw (tk _ _ ?_)
          exact ⟨a, B, sI, pins, σ', H', cls, d, rfl, J, nb, up5.trans up4, .inr (.inr (by rw [hs]; exact hh4)), na, os, ag, w⟩
        first
          | exact wpAny_bind (wpAny_pure (wpAny_bind fin))
          | exact wpAny_bind fin
      | @plain te cs ts b₀ suite pos' hds2 l2 ht hsu r ih =>
        intro w h5 fl5 up5
        obtain ⟨b, C, hb1, ec, hyes, hno⟩ := w
        obtain ⟨oe5, vs5, he5, hz5, hd5⟩ := fl5.there
        have J5 : Inv X pins σ' (upd H' a (L2.DL.ErrO a C d)) { s' with heap := h5 } := J.landedE nb fl5.1 up5 os ag na nB nfS he5 (by rw [hz5.1, ec]) hz5.2 hd5
        refine wpAny_handleBy_cons (codeAny_handlers_test ?_) (by intro q; cases q)
        have LT : PySem.W.Looks (model X.prog X.w) h5 (typeOf (.ref a)) cls := fun A Q E s k q => wpAny_typeOf_ref (k _ _ he5) (by rw [hz5.1]; exact q)
        refine ht a (X.pn ++ pins) [] σ' _ { s' with heap := h5 } cls b _ _ (J5.suiteE a) LT hb1 fun h6 k6 => ?_
        have fl6 := flyZ_keeps fl5 k6
        have up6 : sI.heap.UpToSlots h6 := up5.trans (Heap.UpToSlots.of_keeps k6)
        cases b with
        | true =>
          refine codeAny_handlers_suite ?_
          refine HandSPX.lands_againZ fl6 fun h4 fl4 up4 => ?_
          obtain ⟨oe4, vs4, he4, hz4, hd4⟩ := fl4.there
          have J4 : Inv X pins σ' (upd H' a (L2.DL.ErrO a C d)) { s' with heap := h4 } := J.landedE nb fl4.1 (up6.trans up4) os ag na nB nfS he4 (by rw [hz4.1, ec]) hz4.2 hd4
          refine wpAny_mono ((hsu a (X.pn ++ pins)).run [] _ _ _ _ (J4.suiteE a) (hyes rfl a na)) (fun f s6 hsp => ?_) (fun _ _ z => False.elim z)
          cases f with
          | next =>
            obtain ⟨σ6, H6, S6, q6⟩ := hsp
            exact ⟨_, _, S6.unsuiteE ok, q6⟩
          | brk =>
            obtain ⟨σ6, H6, S6, q6⟩ := hsp
            exact ⟨_, _, S6.unsuiteE ok, q6⟩
          | cont =>
            obtain ⟨σ6, H6, S6, q6⟩ := hsp
            exact ⟨_, _, S6.unsuiteE ok, q6⟩
          | ret u =>
            obtain ⟨v6, σ6, H6, S6, r6, q6⟩ := hsp
            exact ⟨_, _, _, S6.unsuiteE ok, r6, q6⟩
        | false =>
          show wpAny _ X.A (handleBy (.ref a) X.env hds2) _ _ _
          exact ih (hno rfl) h6 fl6 up6
      | @named te cs ts b₀ suite pos' hds2 l2 n i ht hN hi hln hsu r ih =>
        intro w h5 fl5 up5
        obtain ⟨b, C, hb1, ec, hyes, hno⟩ := w
        obtain ⟨oe5, vs5, he5, hz5, hd5⟩ := fl5.there
        have J5 : Inv X pins σ' (upd H' a (L2.DL.ErrO a C d)) { s' with heap := h5 } := J.landedE nb fl5.1 up5 os ag na nB nfS he5 (by rw [hz5.1, ec]) hz5.2 hd5
        refine wpAny_handleBy_cons (codeAny_handlers_test ?_) (by intro q; cases q)
        have LT : PySem.W.Looks (model X.prog X.w) h5 (typeOf (.ref a)) cls := fun A Q E s k q => wpAny_typeOf_ref (k _ _ he5) (by rw [hz5.1]; exact q)
        refine ht a (X.pn ++ pins) [] σ' _ { s' with heap := h5 } cls b _ _ (J5.suiteE a) LT hb1 fun h6 k6 => ?_
        have fl6 := flyZ_keeps fl5 k6
        have up6 : sI.heap.UpToSlots h6 := up5.trans (Heap.UpToSlots.of_keeps k6)
        cases b with
        | true =>
          refine codeAny_handlers_suite_as ?_
          refine HandSPX.lands_againZ fl6 fun h4 fl4 up4 => ?_
          obtain ⟨oe4, vs4, he4, hz4, hd4⟩ := fl4.there
          have J4 : Inv X pins σ' (upd H' a (L2.DL.ErrO a C d)) { s' with heap := h4 } := J.landedE nb fl4.1 (up6.trans up4) os ag na nB nfS he4 (by rw [hz4.1, ec]) hz4.2 hd4
          refine store_ok (X := X.suiteE a (X.pn ++ pins)) (v := .ref a) (J4.suiteE a) hN hi (.inl hln) rfl (fun s5 S5 => ?_) (.inr hln)
          refine wpAny_mono ((hsu a (X.pn ++ pins)).run [] s5 _ _ _ S5 (hyes rfl a na)) (fun f s6 hsp => ?_) (fun _ _ z => False.elim z)
          have end_ : ∀ {σ6 : St} {H6 : Hp} {Q : Shared → Prop}, Inv (X.suiteE a (X.pn ++ pins)) [] σ6 H6 s6 → (∀ s7, Inv X pins (σ6.set i none) H6 s7 → Q s7) →
              wpAny (model X.prog X.w) X.A (do bindName X.env n .none; unbindBehindTheSuite X.env n pos') (fun _ s7 => Q s7) X.xe s6 := fun {σ6 H6 Q} S6 hq => gone_ok (S6.unsuiteE ok) hN hi hln hq
          cases f with
          | next =>
            obtain ⟨σ6, H6, S6, q6⟩ := hsp
            exact end_ S6 fun s7 J7 => ⟨_, _, J7, q6⟩
          | brk =>
            obtain ⟨σ6, H6, S6, q6⟩ := hsp
            exact end_ S6 fun s7 J7 => ⟨_, _, J7, q6⟩
          | cont =>
            obtain ⟨σ6, H6, S6, q6⟩ := hsp
            exact end_ S6 fun s7 J7 => ⟨_, _, J7, q6⟩
          | ret u =>
            obtain ⟨v6, σ6, H6, S6, r6, q6⟩ := hsp
            exact end_ S6 fun s7 J7 => ⟨_, _, _, J7, r6, q6⟩
        | false =>
          show wpAny _ X.A (handleBy (.ref a) X.env hds2) _ _ _
          exact ih (hno rfl) h6 fl6 up6
    exact go hh w h3 fl3 (up.trans up3)
  · cases f with
    | next =>
      obtain ⟨σ', H', J', q⟩ := hsp
      exact wpAny_execs_nil ⟨σ', H', J'.ofTry ok, q⟩
    | brk =>
      obtain ⟨σ', H', J', q⟩ := hsp
      exact ⟨σ', H', J'.ofTry ok, q⟩
    | cont =>
      obtain ⟨σ', H', J', q⟩ := hsp
      exact ⟨σ', H', J'.ofTry ok, q⟩
    | ret u =>
      obtain ⟨v, σ', H', J', r, q⟩ := hsp
      exact ⟨v, σ', H', J'.ofTry ok, r, q⟩
end
end L2

/-! X5: the program's exception classes by their names; isinstance of a tracked exception, its fields -/
namespace L2
open PySem PySem.Spec PyProof.Rows PySem.W
def upRight : List Str := ["InvalidText", "InvalidTie", "InvalidParting", "InvalidNumber", "InvalidName", "InvalidWish", "InvalidClaim", "InvalidPlace", "NotAWeb", "InvalidPlaces", "InvalidTies", "InvalidWishes", "InvalidChanges"]
def upThere : List Str := ["UnknownPlace", "UnknownName", "InUse"]
def upCannot : List Str := ["HasRing", "NotMet", "TooMany", "NothingToUndo", "Broken"]
/-- the classes above an exception class of the program, by their names -/
def errUp (n : Str) : List Str := if upRight.contains n then ["NotRight", "ValueError"] else if upThere.contains n then ["NotThere", "LookupError"] else if upCannot.contains n then ["CannotBe", "ArithmeticError"] else []
/-- whether the class n is m or below it -/
def isE (n m : Str) : Bool := n == m || (errUp n).contains m
/-- what the class at C must say, so that its instances are asked rightly -/
structure ErrC (K : Frag) (C : Addr) : Prop where
  cl : (clsIn K C).isSome = true
  hd : hasDictIn K C = true
  ga : findIn K (.ref C) "__getattribute__" = some (some (.builtin "BaseException.__getattribute__"))
  gg : findIn K (.ref C) "__getattr__" = some none
  sB : subIn K (.ref C) (.type "BaseException") = some true
  ha : findIn K (.ref C) "__class__" = some (some (.builtin "object.__class__"))
  hn : specialIn K (.builtin "object.__class__") "__get__" = some (some (.builtin "getset_descriptor.__get__"))
  ht : takesIn K (.builtin "object.__class__") = some true
  hm : mroIn K C (.type "object") = some true
def errCB (K : Frag) (C : Addr) : Bool := (clsIn K C).isSome && (hasDictIn K C && (decide (findIn K (.ref C) "__getattribute__" = some (some (.builtin "BaseException.__getattribute__"))) && (decide (findIn K (.ref C) "__getattr__" = some none) &&
  (decide (subIn K (.ref C) (.type "BaseException") = some true) && (decide (findIn K (.ref C) "__class__" = some (some (.builtin "object.__class__"))) && (decide (specialIn K (.builtin "object.__class__") "__get__" = some (some (.builtin "getset_descriptor.__get__"))) &&
  (decide (takesIn K (.builtin "object.__class__") = some true) && decide (mroIn K C (.type "object") = some true))))))))
theorem errC_of {K : Frag} {C : Addr} (h : errCB K C = true) : ErrC K C := by
  unfold errCB at h
  simp only [Bool.and_eq_true, decide_eq_true_eq] at h
  obtain ⟨h1, h2, h3, h4, h5, h6, h7, h8, h9⟩ := h
  exact ⟨h1, h2, h3, h4, h5, h6, h7, h8, h9⟩
/-- the own classes ms and built-in ones bs that an instance of n is asked about; its fields fs -/
structure ErrN (K : Frag) (n : Str) (ms : List Str) (bs : List String) (fs : List Str) (C : Addr) : Prop where
  at_ : nsIn K mainGlobals n = some (some (.ref C))
  c : ErrC K C
  own : ∀ m ∈ ms, ∃ D, nsIn K mainGlobals m = some (some (.ref D)) ∧ kitOne K (.ref C) (.ref D) = some (isE n m) ∧ exmOne K (.ref C) (.ref D) = some (isE n m)
  bi : ∀ b ∈ bs, kitOne K (.ref C) (.type b) = some (isE n b)
  fl : ∀ f ∈ fs, findIn K (.ref C) f = some none
def errNB (K : Frag) (n : Str) (ms : List Str) (bs : List String) (fs : List Str) : Bool := match nsIn K mainGlobals n with
  | some (some (.ref C)) => errCB K C && (ms.all (fun m => match nsIn K mainGlobals m with
      | some (some (.ref D)) => decide (kitOne K (.ref C) (.ref D) = some (isE n m)) && decide (exmOne K (.ref C) (.ref D) = some (isE n m))
      | _ => false) && (bs.all (fun b => decide (kitOne K (.ref C) (.type b) = some (isE n b))) && fs.all fun f => decide (findIn K (.ref C) f = some none)))
  | _ => false
theorem errN_of {K : Frag} {n : Str} {ms : List Str} {bs : List String} {fs : List Str} (h : errNB K n ms bs fs = true) : ∃ C, ErrN K n ms bs fs C := by
  unfold errNB at h
  split at h
  · rename_i C e
    rw [Bool.and_eq_true, Bool.and_eq_true, Bool.and_eq_true] at h
    obtain ⟨h1, h2, h3, h4⟩ := h
    refine ⟨C, e, errC_of h1, fun m hm => ?_, fun b hb => of_decide_eq_true (List.all_eq_true.mp h3 b hb), fun f hf => of_decide_eq_true (List.all_eq_true.mp h4 f hf)⟩
    have z := List.all_eq_true.mp h2 m hm
    split at z
    · rename_i D e'
      rw [Bool.and_eq_true] at z
      exact ⟨D, e', of_decide_eq_true z.1, of_decide_eq_true z.2⟩
    · cases z
  · cases h
section
variable {X : Cx} {pins : List (Addr × Obj)} {σ : St} {H : Hp} {s : Shared} {a C : Addr} {d : Option Addr}
end
end L2

/-! X6: defs called within a suite that raise nothing; isinstance and fields of a tracked exception, as rules -/
namespace L2
open PySem PySem.Spec PyProof.Rows
section
variable {P : Program} {w : World} {K : PySem.W.Frag} {mg : Str → Option Value} {base : Heap} {k : Nat} {f : Addr} {fd : FuncData} {ps : List Str} {sp : Sp}
end
section
variable {X : Cx} {k : Nat} {f : Addr} {fd : FuncData} {ps : List Str} {sp : Sp} {E : XK} {x : Str} {p pos : Pos} {e : Expr} {es : List Expr} {t : TA}
end
end L2

/-! DL57: isinstance of an exception, its fields, over data -/
namespace L2.DL
open PySem PySem.Spec PyProof.Rows
section
variable {X : Cx} {a : Expr} {wa : WE} {p p2 pos : Pos} {m : Str} {ns : List Str}
end
end L2.DL

/-! DL58: readings with what is raised: expressions and statements that may raise; defs that may raise -/
namespace L2.DL
open PySem PySem.Spec PyProof.Rows
/-- what is wanted of an exception, with the frame's slots then -/
abbrev EX := SD → EK
def AnsW (K : PySem.W.Frag) (S : SO) (H : Hp) (X0 : EX) (W : WX) : Prop := ∀ n fs sd' S' σ' H' C d, X0 sd' n fs S' → Nx S H S' H' → Sta K sd' S' σ' H' → PySem.W.nsIn K mainGlobals n = some (some (.ref C)) → ErrF K S' H' d fs → W (.ref C) d σ' H'
theorem AnsW.nx {K : PySem.W.Frag} {S S' : SO} {H H' : Hp} {X0 : EX} {W : WX} (a : AnsW K S H X0 W) (x : Nx S H S' H') : AnsW K S' H' X0 W := fun n fs sd' S2 σ' H2 C d q y s hn hf => a n fs sd' S2 σ' H2 C d q (x.trans y) s hn hf
abbrev WEX := SD → SO → KD → EX → Prop
abbrev WSX := EndsD → EX → SD → SO → Prop
def liftSX (K : PySem.W.Frag) (W : WX) (w : WSX) : TS := fun E σ H => ∃ sd S E0 X0, Sta K sd S σ H ∧ w E0 X0 sd S ∧ AnsE K S H E0 E ∧ AnsW K S H X0 W
abbrev DSsX (X : Cx) (W : WX) (st : List Stmt) (w : WSX) : Prop := PSs X st (liftSX X.K W w)
theorem PS.nox {X : Cx} {st : Stmt} {t : TS} (h : PS X.nox st t) : PS X st t := ⟨fun pins s σ H D I hw =>
  wpAny_mono (h.run pins s σ H D (I.wish _) hw) (fun _ _ q => q.unwish) fun _ _ z => False.elim z⟩
def wNE (w : WE) : WEX := fun sd S Q _ => w sd S Q
def wNS (w : WS) : WSX := fun E _ sd S => w E sd S
section
variable {X : Cx} {W : WX} {e : Expr} {st : Stmt} {sts : List Stmt} {w : WE} {ws : WS} {wx : WEX} {wsx wtx : WSX} {pos : Pos}
theorem dssx_of (h : DSs X.nox sts ws) : DSsX X W sts (wNS ws) := pss_imp (PSs.nox h) fun E σ H ⟨sd, S, E0, X0, st, q, an, _⟩ => ⟨sd, S, E0, st, q, an⟩
def wSeqX (a b : WSX) : WSX := fun E X0 sd S => a { E with nx := b E X0 } X0 sd S
def wRetX (we : WEX) : WSX := fun E X0 sd S => we sd S E.rt X0
def wDropX (we : WEX) : WSX := fun E X0 sd S => we sd S (fun _ S1 => E.nx sd S1) X0
def wSetX (we : WEX) (i : Nat) : WSX := fun E X0 sd S => we sd S (fun d S1 => E.nx (sd.set i (some d)) S1) X0
def wIfSX (c : WT) (a b : WSX) : WSX := fun E X0 sd S => c sd S fun k S1 => if k = true then a E X0 sd S1 else b E X0 sd S1
def wIfX (t : WT) (wa wb : WEX) : WEX := fun sd S Q X0 => t sd S fun k S1 => if k = true then wa sd S1 Q X0 else wb sd S1 Q X0
/-- raise n(e) -/
def wRaise (n : Str) (g : Str) (t : WA) : WSX := fun _ X0 sd S => t sd S fun xs S1 => ∃ x, xs = [x] ∧ X0 sd n [(g, x)] S1
end
theorem DA.nox {X : Cx} {es : List Expr} {t : WA} (ha : DA X.nox es t) : DA X es t := ⟨fun q pins s σ H Q I h => wpAny_mono (ha.run q pins s σ H Q (I.wish _) h) (fun _ _ ⟨vs, H', I', r, z⟩ => ⟨vs, H', I'.unwish, r, z⟩) fun _ _ z => False.elim z⟩
theorem DK.nox {X : Cx} {es : List Keyword} {t : WA} (ha : DK X.nox es t) : DK X es t := ⟨fun q pins s σ H Q I h => wpAny_mono (ha.run q pins s σ H Q (I.wish _) h) (fun _ _ ⟨vs, H', I', r, z⟩ => ⟨vs, H', I'.unwish, r, z⟩) fun _ _ z => False.elim z⟩

/-! ### calls of defs that may raise -/
section
variable {X : Cx} {W : WX} {k : Nat} {f C : Addr} {fd : FuncData} {ps ks : List Str} {sp : Sp} {dvs : List V} {ds : List Value} {x m : Str} {p pos apos : Pos} {e o : Expr} {es : List Expr} {kws : List Keyword} {ta : TE} {t tk : TA}
end
end L2.DL

/-! DL59: calls that may raise, over data; defs that may raise by their bodies; for; try -/
namespace L2.DL
open PySem PySem.Spec PyProof.Rows
section
variable {P : Program} {w : World} {K : PySem.W.Frag} {mg : Str → Option Value} {base : Heap}
end
section
variable {X : Cx} {W : WX} {k : Nat} {f C : Addr} {fd : FuncData} {ps ks : List Str} {dsp : DSp} {dvs : List V} {dds : List D} {ds : List Value} {x m : Str} {p pos apos : Pos} {e o : Expr} {es : List Expr} {kws : List Keyword} {wt wk : WA} {wo : WE}
def wFnX (sp : DSp) (dds : List D) (t : WA) : WEX := fun sd S Q X0 => t sd S fun xs S1 => sp (xs ++ dds) S1 Q (X0 sd)
def wFnKX (sp : DSp) (gD : List D → List D → List D) (tk : WA) : WEX := fun sd S Q X0 => tk sd S fun ys S2 => sp (gD [] ys) S2 Q (X0 sd)
def wMethX (C : Addr) (m : Str) (sp : DSp) (dds : List D) (wo : WE) (t : WA) : WEX := fun sd S Q X0 => wo sd S fun d S1 => (∃ fs, InsD C d S1 fs ∧ fs.lookup m = none) ∧ t sd S1 fun xs S2 => sp (d :: (xs ++ dds)) S2 Q (X0 sd)
end
/-! ### for, its body may raise -/
section
variable {X : Cx} {W : WX} {tg iter : Expr} {body : List Stmt} {wi : WI} {g : WG} {b : WSX} {pos : Pos}
end
/-! ### try -/
/-- a clause: the names of its classes, the name's slot, what its suite reads -/
structure HdD where
  ms : List Str
  slot : Option Nat
  ws : WS
def goneD (E : EndsD) (i : Nat) : EndsD := { nx := fun sd S => E.nx (sd.set i none) S, rt := E.rt, bk := fun sd S => E.bk (sd.set i none) S, ct := fun sd S => E.ct (sd.set i none) S }
/-- an exception of the body meets the clauses -/
def hdsR (ns : List Str) (E : EndsD) (X0 : EX) : List HdD → EX
  | [] => X0
  | h :: r => fun sd n fs S => n ∈ ns ∧ (h.ms.any (isE n) = true → ∀ a, S a = none → match h.slot with
      | none => h.ws E sd (S.set a (.err n fs))
      | some i => h.ws (goneD E i) (sd.set i (some (.obj a))) (S.set a (.err n fs))) ∧ (h.ms.any (isE n) = false → hdsR ns E X0 r sd n fs S)
def wTry (ns : List Str) (wb : WSX) (hs : List HdD) : WSX := fun E X0 sd S => wb E (hdsR ns E X0 hs) sd S
theorem exmAny_of {K : PySem.W.Frag} {n : Str} {C : Addr} : ∀ {l : List (Str × Addr)}, (∀ p ∈ l, PySem.W.exmOne K (.ref C) (.ref p.2) = some (isE n p.1)) → PySem.W.exmAny K (.ref C) (l.map fun p => Value.ref p.2) = some ((l.map (·.1)).any (isE n))
  | [], _ => rfl
  | p :: l, h => by
    have h1 := h p (List.mem_cons_self ..)
    have h2 := exmAny_of (l := l) fun q hq => h q (List.mem_cons_of_mem _ hq)
    show PySem.W.exmAny K (.ref C) (.ref p.2 :: l.map fun p => Value.ref p.2) = _
    unfold PySem.W.exmAny
    rw [h1, h2]
    rfl
section
variable {X : Cx} {W : WX} {ns : List Str}
/-- the clauses over data -/
inductive HdsX (X : Cx) (ns : List Str) : List ExceptHandler → List HdD → List HdW → Prop
  | nil : HdsX X ns [] [] []
  | plain {te : Expr} {l : List (Str × Addr)} {ws : WS} {b₀ : Stmt} {suite : List Stmt} {pos' : Pos} {hds : List ExceptHandler} {ld : List HdD} {lw : List HdW} (ht : TestE X te (l.map fun p => Value.ref p.2))
      (hT : ∀ n ∈ ns, ∃ ms bs fs C, ErrN X.K n ms bs fs C ∧ ∀ p ∈ l, p.1 ∈ ms) (hl : ∀ p ∈ l, PySem.W.nsIn X.K mainGlobals p.1 = some (some (.ref p.2)))
      (hsu : ∀ (a : Addr) (pn : List (Addr × Obj)), DSs (X.suiteE a pn) (b₀ :: suite) ws) (r : HdsX X ns hds ld lw) : HdsX X ns (.ExceptHandler (some te) none (b₀ :: suite) pos' :: hds) (⟨l.map (·.1), none, ws⟩ :: ld) (⟨l.map fun p => Value.ref p.2, none, fun _ => liftS X.K ws⟩ :: lw)
  | named {te : Expr} {l : List (Str × Addr)} {ws : WS} {b₀ : Stmt} {suite : List Stmt} {pos' : Pos} {hds : List ExceptHandler} {ld : List HdD} {lw : List HdW} {nm : Str} {i : Nat} (ht : TestE X te (l.map fun p => Value.ref p.2)) (hN : X.N.Nodup) (hi : X.N[i]? = some nm) (hln : X.env.kindOf nm = some .local)
      (hT : ∀ n ∈ ns, ∃ ms bs fs C, ErrN X.K n ms bs fs C ∧ ∀ p ∈ l, p.1 ∈ ms) (hl : ∀ p ∈ l, PySem.W.nsIn X.K mainGlobals p.1 = some (some (.ref p.2)))
      (hsu : ∀ (a : Addr) (pn : List (Addr × Obj)), DSs (X.suiteE a pn) (b₀ :: suite) ws) (r : HdsX X ns hds ld lw) : HdsX X ns (.ExceptHandler (some te) (some nm) (b₀ :: suite) pos' :: hds) (⟨l.map (·.1), some i, ws⟩ :: ld) (⟨l.map fun p => Value.ref p.2, some i, fun _ => liftS X.K ws⟩ :: lw)
theorem HdsX.e {hds : List ExceptHandler} {ld : List HdD} {lw : List HdW} (h : HdsX X ns hds ld lw) : HdsE X hds lw := by
  induction h with
  | nil => exact .nil
  | plain ht hT hl hsu r ih => exact .plain ht hsu ih
  | named ht hN hi hln hT hl hsu r ih => exact .named ht hN hi hln hsu ih
theorem exm_at {n : Str} {C : Addr} {l : List (Str × Addr)} (hT : ∃ ms bs fs C, ErrN X.K n ms bs fs C ∧ ∀ p ∈ l, p.1 ∈ ms) (hl : ∀ p ∈ l, PySem.W.nsIn X.K mainGlobals p.1 = some (some (.ref p.2))) (hC : PySem.W.nsIn X.K mainGlobals n = some (some (.ref C))) :
    PySem.W.exmAny X.K (.ref C) (l.map fun p => Value.ref p.2) = some ((l.map (·.1)).any (isE n)) := by
  obtain ⟨ms, bs, fs, C', T, hm⟩ := hT
  have eC : C' = C := by
    have z := T.at_.symm.trans hC
    cases z
    rfl
  subst eC
  refine exmAny_of fun p hp => ?_
  obtain ⟨D, hD, _, hx⟩ := T.own p.1 (hm p hp)
  have eD : D = p.2 := by
    have z := hD.symm.trans (hl p hp)
    cases z
    rfl
  subst eD
  exact hx
theorem hds_ans {hds : List ExceptHandler} {ld : List HdD} {lw : List HdW} (h : HdsX X ns hds ld lw) {S : SO} {H : Hp} {E0 : EndsD} {X0 : EX} {E : Ends} (an : AnsE X.K S H E0 E) (ax : AnsW X.K S H X0 W) : AnsW X.K S H (hdsR ns E0 X0 ld) (wHdE X.K W E lw) := by
  induction h with
  | nil => exact ax
  | @plain te l ws b₀ suite pos' hds2 ld lw ht hT hl hsu r ih =>
    intro n fs sd' S' σ' H' C d ⟨hn, hy, hno⟩ nx st hC hf
    refine ⟨_, C, exm_at (hT n hn) hl hC, rfl, fun hb a na => ?_, fun hb => ih n fs sd' S' σ' H' C d (hno hb) nx st hC hf⟩
    have fa := st.s.free na
    have n2 : Nx S' H' (S'.set a (.err n fs)) (upd H' a (ErrO a C d)) := nx_obj na fa
    have s2 := srel_put st.s n2 ⟨C, d, hC, upd_same, hf.nx n2⟩
    exact ⟨sd', _, E0, st.nx n2 s2, hy hb a fa, an.go (nx.trans n2)⟩
  | @named te l ws b₀ suite pos' hds2 ld lw nm i ht hN hi hln hT hl hsu r ih =>
    intro n fs sd' S' σ' H' C d ⟨hn, hy, hno⟩ nx st hC hf
    refine ⟨_, C, exm_at (hT n hn) hl hC, rfl, fun hb a na => ?_, fun hb => ih n fs sd' S' σ' H' C d (hno hb) nx st hC hf⟩
    have fa := st.s.free na
    have n2 : Nx S' H' (S'.set a (.err n fs)) (upd H' a (ErrO a C d)) := nx_obj na fa
    have s2 := srel_put st.s n2 ⟨C, d, hC, upd_same, hf.nx n2⟩
    have st2 : Sta X.K (sd'.set i (some (.obj a))) (S'.set a (.err n fs)) (σ'.set i (some (.ref a))) (upd H' a (ErrO a C d)) := (st.nx n2 s2).set i (d := .obj a) (v := .ref a) rfl
    have ag := an.go (nx.trans n2)
    have clr : ∀ {sd : SD} {S : SO} {σ : St} {H : Hp}, Sta X.K sd S σ H → Sta X.K (sd.set i none) S (σ.set i none) H := fun {sd S σ H} st => ⟨st.s, by
      refine ⟨by rw [List.length_set, List.length_set]; exact st.r.1, fun j dd e => ?_⟩
      by_cases hj : i = j
      · subst hj
        have hl := (List.getElem?_eq_some_iff.mp e).1
        rw [List.length_set] at hl
        rw [List.getElem?_set_self hl] at e
        cases e
      · rw [List.getElem?_set_ne hj] at e
        obtain ⟨v, e', r⟩ := st.r.2 j dd e
        exact ⟨v, by rw [List.getElem?_set_ne hj]; exact e', r⟩⟩
    exact ⟨_, _, goneD E0 i, st2, hy hb a fa, ⟨fun sd S2 σ H2 q n st => ag.nx _ _ _ _ q n (clr st), ag.rt, fun sd S2 σ H2 q n st => ag.bk _ _ _ _ q n (clr st), fun sd S2 σ H2 q n st => ag.ct _ _ _ _ q n (clr st)⟩⟩
/-- in a def that nothing leaves -/
theorem ds_try {body : List Stmt} {h₀ : ExceptHandler} {hds : List ExceptHandler} {ld : List HdD} {lw : List HdW} {wb : WSX} {pos : Pos} (hs : X.stack = X.env :: X.outer) (hf : X.env.frame = some X.env.locals)
    (hb : ∀ (W' : WX) (pn : List (Addr × Obj)) (xe : Value → Shared → Prop), Takes (X.tr pn xe) W' → PassesOwn (model X.prog X.w) X.A X.env xe → DSsX (X.tr pn xe) W' body wb) (hh : HdsX X ns (h₀ :: hds) ld lw) : DS X (.Try body (h₀ :: hds) [] [] pos) (fun E sd S => wTry ns wb ld E (fun _ _ _ _ => False) sd S) :=
  ps_imp (ps_tryE (tb := fun W' => liftSX X.K W' wb) hs hf (Wout := fun _ _ _ _ => False) (fun _ _ ⟨_, _, _, _, _, _, _, _, _, _, _, _, _, _, _, _, w⟩ => w.elim) hb hh.e) fun E σ H ⟨sd, S, E0, st, q, an⟩ => ⟨sd, S, E0, _, st, q, an, hds_ans hh an (W := fun _ _ _ _ => False) (X0 := fun _ _ _ _ => False) fun _ _ _ _ _ _ _ _ z => z.elim⟩
end
end L2.DL

/-! DL60: a lambda without parameters handed to a def that calls it: the lambda made, called, the def run with the maker's slots behind its own -/
namespace L2.DL
open PySem PySem.Spec PyProof.Rows LamX
section
variable {X : Cx} {pins : List (Addr × Obj)} {σ : L2.St} {H : Hp} {s : Shared} {S : SO}
end
/-! ### the maker's slots behind a def's own -/
section
variable {P : Program} {w : World} {K : PySem.W.Frag} {mg : Str → Option Value} {base : Heap} {N : List Str} {qual : Str} {scope : Scope} {f : Addr} {cd : Value} {A : Around} {outer : List Env} {s s1 : Shared} {H H1 : Hp} {E : XK} {σ : St} {pins : List (Addr × Obj)} {CX : CXT}
end
end L2.DL

/-! DL61: x(lambda: e), x a def that calls what it got -/
namespace L2.DL
open PySem PySem.Spec PyProof.Rows LamX
section
variable {X : Cx} {pins : List (Addr × Obj)} {σ : L2.St} {H : Hp} {s : Shared}
end
section
variable {X : Cx}
end
end L2.DL

/-! DL62: defs that are called in a suite; defs whose code object is told; the law's head with tables of code objects -/
namespace L2.DL
open PySem PySem.Spec PyProof.Rows
section
variable {P : Program} {w : World} {K : PySem.W.Frag} {mg : Str → Option Value} {base : Heap}
end
section
variable {X : Cx} {k : Nat} {f : Addr} {fd : FuncData} {ps : List Str} {dsp : DSp} {x : Str} {p pos : Pos} {e : Expr} {es : List Expr} {wt : WA}
end
/-! ### the law's head with tables -/
end L2.DL

/-! X7: what the written part says of an exception class and its __init__, asked at once -/
namespace PySem
namespace ErrX
open PySem.W PySem.Calls PyProof.Rows PySem.HandSPX PySem.Spec
end ErrX
end PySem

/-! DL63: the program's exceptions told at once; steps of readings with exceptions and lambdas -/
namespace L2.DL
open PySem PySem.Spec PyProof.Rows
/-- the fields of an exception class -/
def errFld (n : Str) : List Str := if n = "NothingToUndo" then [] else if n = "Broken" then ["index", "shown"] else if n = "HasRing" then ["ring"] else if n = "NotMet" then ["pair"] else if n = "TooMany" then ["most"] else if n = "InvalidPlaces" ∨ n = "InvalidTies" ∨ n = "InvalidWishes" ∨ n = "InvalidChanges" ∨ n = "InUse" then ["index"] else ["given"]
def ErrT (K : PySem.W.Frag) (ns ms : List Str) (bs : List String) : Prop := ∀ n ∈ ns, ∃ C, ErrN K n ms bs (errFld n) C
def errTB (K : PySem.W.Frag) (ns ms : List Str) (bs : List String) : Bool := ns.all fun n => errNB K n ms bs (errFld n)
theorem errT_of {K : PySem.W.Frag} {ns ms : List Str} {bs : List String} (h : errTB K ns ms bs = true) : ErrT K ns ms bs := fun n hn => errN_of (List.all_eq_true.mp h n hn)
theorem errT_h {K : PySem.W.Frag} {ns ms : List Str} {bs : List String} {l : List (Str × Addr)} (h : ErrT K ns ms bs) (hs : (l.map (·.1)).all (fun m => ms.contains m) = true) : ∀ n ∈ ns, ∃ ms bs fs C, ErrN K n ms bs fs C ∧ ∀ p ∈ l, p.1 ∈ ms := fun n hn => by
  obtain ⟨C, T⟩ := h n hn
  refine ⟨ms, bs, _, C, T, fun p hp => ?_⟩
  have z := List.all_eq_true.mp hs p.1 (List.mem_map.mpr ⟨p, hp, rfl⟩)
  simpa using z
theorem all1 {α : Type} {P : α → Prop} {a : α} (h : P a) : ∀ p ∈ [a], P p := fun p hp => by
  rw [List.mem_singleton] at hp
  rw [hp]
  exact h
def wTry0 (ns : List Str) (wb : WSX) (hs : List HdD) : WS := fun E sd S => wTry ns wb hs E (fun _ _ _ _ => False) sd S
/-! ### steps -/
section
variable {E : EndsD} {X0 : EX} {sd : SD} {S : SO} {Q : KD} {a b : WSX} {we : WEX} {w : WE} {ws : WS} {t : WA} {wt : WT}
theorem xSeqX (h : a { E with nx := b E X0 } X0 sd S) : wSeqX a b E X0 sd S := h
theorem xNS (h : ws E sd S) : wNS ws E X0 sd S := h
theorem xNE (h : w sd S Q) : wNE w sd S Q X0 := h
theorem xRetX (h : we sd S E.rt X0) : wRetX we E X0 sd S := h
theorem xDropX (h : we sd S (fun _ S1 => E.nx sd S1) X0) : wDropX we E X0 sd S := h
theorem xSetX {i : Nat} (h : we sd S (fun d S1 => E.nx (sd.set i (some d)) S1) X0) : wSetX we i E X0 sd S := h
theorem xIfSX (h : wt sd S fun k S1 => if k = true then a E X0 sd S1 else b E X0 sd S1) : wIfSX wt a b E X0 sd S := h
theorem xIfX {wa wb : WEX} (h : wt sd S fun k S1 => if k = true then wa sd S1 Q X0 else wb sd S1 Q X0) : wIfX wt wa wb sd S Q X0 := h
theorem xRaise {n g : Str} (h : t sd S fun xs S1 => ∃ x, xs = [x] ∧ X0 sd n [(g, x)] S1) : wRaise n g t E X0 sd S := h
theorem xFnX {sp : DSp} (h : t sd S fun xs S1 => sp xs S1 Q (X0 sd)) : wFnX sp [] t sd S Q X0 := by
  unfold wFnX
  simpa only [List.append_nil] using h
theorem xFnKX {sp : DSp} {gD : List D → List D → List D} (h : t sd S fun ys S2 => sp (gD [] ys) S2 Q (X0 sd)) : wFnKX sp gD t sd S Q X0 := h
theorem xMthX {C : Addr} {m : Str} {sp : DSp} (h : w sd S fun d S1 => MthD C m d S1 (t sd S1 fun xs S2 => sp (d :: xs) S2 Q (X0 sd))) : wMethX C m sp [] w t sd S Q X0 := by
  unfold wMethX
  simp only [List.append_nil]
  exact h
theorem xTry0 {ns : List Str} {hs : List HdD} (h : a E (hdsR ns E (fun _ _ _ _ => False) hs) sd S) : wTry0 ns a hs E sd S := h
end
end L2.DL

/-! DL64: list.count(True); repr of a value of any kind; list.index(True) -/
namespace L2.DL
open PySem PySem.Spec PyProof.Rows
section
variable {X : Cx}
end
end L2.DL

/-! DL65: NAME.get(e), NAME a dict of the module with texts for numbers; lists of errors of other laws -/
namespace L2.DL
open PySem PySem.Spec PyProof.Rows
def nsT : List Str := ["InvalidText"]
def msT : List Str := ["InvalidText"]
def bsT : List String := []
/-- an entry: text, hash, number -/
def entI (e : DictEntry) : Option (Str × Int × Int) := match e.key, e.val with
  | .str x _, .int n _ => some (x, e.hash, n)
  | _, _ => none
def gtabL (K : PySem.W.Frag) (a : Addr) : Option (List (Option (Str × Int × Int))) := match K.lookup a with
  | some ⟨.type c, none, .dict es _, sl⟩ => (match decide (c = "dict") && (sl.isEmpty && !(a == sysModules)) with
    | true => some (es.toList.map entI)
    | false => none)
  | _ => none
def entsOf (P : Params) (tab : List (Str × Int)) : List (Option (Str × Int × Int)) := tab.map fun p => some (p.1, PyData.keyHash P p.1, p.2)
def gval (tab : List (Str × Int)) (z : Str) : D := match tab.lookup z with
  | some n => .int n
  | none => .non
def gvalV (tab : List (Str × Int)) (z : Str) : V := match tab.lookup z with
  | some n => .int n
  | none => .non
theorem gval_rel {K : PySem.W.Frag} {S : SO} {H : Hp} (tab : List (Str × Int)) (z : Str) : Rel K S H (gval tab z) (gvalV tab z) := by
  unfold gval gvalV
  cases tab.lookup z <;> rfl
structure GTab (K : PySem.W.Frag) (w : World) (a : Addr) (tab : List (Str × Int)) : Prop where
  ex : ∃ es n, K.lookup a = some ⟨.type "dict", none, .dict es n, #[]⟩ ∧ PySem.W.KeysLit w.params es.toList ∧ (a == sysModules) = false ∧
    ∀ z, (tab.lookup z = none ∧ PySem.findBy Value.isStrOf es z = none) ∨ ∃ i t, tab.lookup z = some i ∧ PySem.findBy Value.isStrOf es z = some (.int i t)
theorem ents_lit {P : Params} : ∀ {l : List DictEntry} {tab : List (Str × Int)}, l.map entI = entsOf P tab → PySem.W.KeysLit P l ∧
    ∀ z, (tab.lookup z = none ∧ (l.find? fun e => Value.isStrOf z e.key) = none) ∨ ∃ i t e, tab.lookup z = some i ∧ (l.find? fun e => Value.isStrOf z e.key) = some e ∧ e.val = .int i t
  | [], [], _ => ⟨trivial, fun z => .inl ⟨rfl, rfl⟩⟩
  | [], _ :: _, h => by cases h
  | _ :: _, [], h => by cases h
  | e :: r, (k, i) :: tab, h => by
    have h1 : entI e :: r.map entI = some (k, PyData.keyHash P k, i) :: entsOf P tab := h
    injection h1 with h2 h3
    obtain ⟨i1, i2⟩ := ents_lit h3
    unfold entI at h2
    split at h2
    · rename_i x t n u ek ev
      have h4 := Option.some.inj h2
      obtain ⟨h5, h6⟩ := Prod.mk.inj h4
      obtain ⟨h7, h8⟩ := Prod.mk.inj h6
      subst h5 h8
      refine ⟨⟨⟨x, t, ek, h7⟩, i1⟩, fun z => ?_⟩
      by_cases hz : z = x
      · subst hz
        refine .inr ⟨n, u, e, by rw [List.lookup_cons]; simp, ?_, ev⟩
        rw [List.find?_cons_of_pos]
        rw [ek]
        show (z == z) = true
        simp
      · have b1 : (z == x) = false := by simpa using hz
        have b2 : ¬ (Value.isStrOf z e.key = true) := by
          rw [ek]
          show ¬ ((x == z) = true)
          simpa using fun q => hz q.symm
        have e1 : ((e :: r).find? fun e : DictEntry => Value.isStrOf z e.key) = r.find? fun e : DictEntry => Value.isStrOf z e.key := List.find?_cons_of_neg (p := fun e : DictEntry => Value.isStrOf z e.key) b2
        have e2 : ((x, n) :: tab).lookup z = tab.lookup z := by rw [List.lookup_cons, b1]
        rw [e1, e2]
        exact i2 z
    · cases h2
theorem gtab_of {K : PySem.W.Frag} {w : World} {a : Addr} {tab : List (Str × Int)} (h : gtabL K a = some (entsOf w.params tab)) : GTab K w a tab := by
  unfold gtabL at h
  cases q : K.lookup a with
  | none =>
    rw [q] at h
    cases h
  | some o =>
    obtain ⟨oc, od, dt, osl⟩ := o
    rw [q] at h
    cases oc with
    | type c =>
      cases od with
      | none =>
        cases dt with
        | dict es n =>
          have h1 : (match decide (c = "dict") && (osl.isEmpty && !(a == sysModules)) with
            | true => some (es.toList.map entI)
            | false => none) = some (entsOf w.params tab) := h
          cases z : decide (c = "dict") && (osl.isEmpty && !(a == sysModules)) with
          | false =>
            rw [z] at h1
            cases h1
          | true =>
            rw [z] at h1
            simp only [Bool.and_eq_true, decide_eq_true_eq] at z
            obtain ⟨e1, z3, z4⟩ := z
            have e2 : osl = #[] := Array.isEmpty_iff.mp z3
            have e3 : (a == sysModules) = false := by simpa using z4
            subst e1 e2
            obtain ⟨k1, k2⟩ := ents_lit (Option.some.inj h1)
            refine ⟨es, n, q, k1, e3, fun z => ?_⟩
            have ef : PySem.findBy Value.isStrOf es z = (es.toList.find? fun e => Value.isStrOf z e.key).map (·.val) := by
              obtain ⟨l⟩ := es
              unfold PySem.findBy
              rw [List.find?_toArray]
            rw [ef]
            rcases k2 z with ⟨a1, a2⟩ | ⟨i, t, e, a1, a2, a3⟩
            · exact .inl ⟨a1, by rw [a2]; rfl⟩
            · exact .inr ⟨i, t, a1, by rw [a2]; exact congrArg some a3⟩
        | _ => cases h
      | some _ => cases h
    | _ => cases h
def wGGet (tab : List (Str × Int)) (we : WE) : WE := fun sd S Q => we sd S fun d S1 => ∃ z, d = .str z ∧ Q (gval tab z) S1
section
variable {X : Cx} {x : Str} {a : Addr} {tab : List (Str × Int)} {e : Expr} {we : WE} {np apos cpos : Pos}
theorem de_gget (hm : X.mg x = some (.ref a)) (g : GTab X.K X.w a tab) (he : DE X e we) (m : M1 X (.Name x np) "get" apos e cpos) (hg : Gl X x := by rfl) (hdb : (x == ("__debug__" : Str)) = false := by decide) :
    DE X (.Call (.Attribute (.Name x np) "get" apos) [e] [] cpos) (wGGet tab we) := by
  obtain ⟨es, n, hl, hk, low, hf⟩ := g.ex
  refine ⟨fun pins s σ H Q I ⟨sd, S, Q0, st, q, an⟩ => ?_⟩
  refine wpAny_Call_method m.base m.few m.line PySem.F.plainAttrs_dict PySem.F.slot_dict_get PySem.F.type_dict_get (ld_glob I hg hm ?_ hdb)
  have mo := PySem.W.mapOf_K (prog := X.prog) (w := X.w) I.kIn hl hk
  refine ⟨mo.typeIs, fun b q => ?_, ?_⟩
  · cases q
    exact ⟨_, I.kIn _ _ hl, rfl⟩
  rw [m.trees]
  refine Calls.callWith_builtin rfl (Calls.evalArgs_plain (Calls.spliced_cons (thn (he.run pins s σ H (fun y H1 => ∃ z, y = .str z ∧ Q (gvalV tab z) H1) I ⟨sd, S, _, st, q, ?_⟩) fun u s1 hh => Calls.spliced_nil ?_)))
  · rintro d S1 v H1 ⟨z, rfl, q1⟩ n1 s1 r1
    have ev : v = .str z := r1
    exact ⟨z, ev, an _ S1 _ H1 q1 n1 s1 (gval_rel tab z)⟩
  · obtain ⟨y, H1, I1, ry, z, rfl, q1⟩ := hh
    obtain ⟨t, rfl⟩ := (show ∃ t, u = Value.str z t from ry)
    have m1 := PySem.W.mapOf_K (prog := X.prog) (w := X.w) I1.kIn hl hk
    refine call_meetsIn PySem.F.slot_dict_get m1.typeIs PySem.F.entry_dict_get (PySem.F.args_dict_get_2 _ _) (meets_dict_get (PySem.strKind X.prog X.w) a (PySem.strKind_is X.prog X.w z t) low) ⟨_, m1, ?_⟩
    unfold gvalV at q1
    rcases hf z with ⟨a1, a2⟩ | ⟨i, t', a1, a2⟩
    · rw [a1] at q1
      refine ⟨.non, H1, I1.tok _, ?_, q1⟩
      rw [a2]
      rfl
    · rw [a1] at q1
      refine ⟨.int i, H1, I1.tok _, ?_, q1⟩
      rw [a2]
      exact ⟨t', rfl⟩
end
/-- (a, b, ..) = a tuple of any kind -/
def gTA (n : Nat) (r : WGs) : WG := fun d sd S Q => ∃ xs, asTup d = some xs ∧ xs.length = n ∧ r xs sd S Q
section
variable {X : Cx} {pos : Pos}
theorem dg_tupA {es : List Expr} {k : Nat} {r : WGs} {n : Nat} (hc : X.calm = true) (h : DGs X es r) (hn : (assignEach es X.env).length = n := by rfl) (hst : (assignEach es X.env).findIdx? (·.1) = none := by rfl) : DG X (.Tuple es k pos) (gTA n r) :=
  pg_imp (pg_tup hc h hn hst) fun v σ H Q ⟨d, sd, S, Q0, st, rr, ⟨xs, e, hl, q⟩, an⟩ => by
    obtain ⟨a, vs, e1, t, rv⟩ := asTup_at rr e
    exact ⟨a, vs, e1, t, by rw [← rv.length]; exact hl, xs, sd, S, Q0, st, rv, q, an⟩
theorem gTAx {n : Nat} {r : WGs} {d : D} {xs : List D} {sd : SD} {S : SO} {Q : SD → SO → Prop} (e : asTup d = some xs) (hl : xs.length = n) (h : r xs sd S Q) : gTA n r d sd S Q := ⟨xs, e, hl, h⟩
end
theorem xGGet {tab : List (Str × Int)} {we : WE} {sd : SD} {S : SO} {Q : KD} (h : we sd S fun d S1 => ∃ z, d = .str z ∧ Q (gval tab z) S1) : wGGet tab we sd S Q := h
end L2.DL

namespace L2.DL
open PySem PySem.Spec PyProof.Rows
abbrev LETTERS : Str := "abcdefghijklmnopqrstuvwxyz"
def nameOk (x : Str) : Bool := decide (0 < x.length) && (decide (x.length < 9) && x.cps.toList.all fun c => decide (c ∈ LETTERS.cps.toList))
def sp_is_name (W : Addr) : DSp := fun ds S Q E => ∃ x : Str, ds = [.str x] ∧ x.length ≤ 1000000 ∧ Q (.bl (nameOk x)) S
def w_is_name (W : Addr) : WS := (wRet (wAndV (wCall (cIsi (.ty "str") (fTy "str" [])) (wCons (wV 0) (wCons (wC (.ty "str")) wNil))) (wAndV (wCh oLt oLt (wC (.int 0)) (wCall cLen (wCons (wV 0) wNil)) (wC (.int 9))) (wCall cAll (wCons (wLcP (wStrI (wV 0)) (.n 1) wYes (wO oIn (wV 1) (wC (.str "abcdefghijklmnopqrstuvwxyz"))) [1]) wNil)))))
theorem pure_is_name (W : Addr) : ∀ ds S Q E, sp_is_name W ds S Q E → w_is_name W (endsOf Q) (startD ["value", "sign"] ds) S := by
  rintro ds S Q E ⟨x, rfl, hx, q⟩
  refine ⟨rfl, _, _, rfl, rfl, isY rfl ⟨hx, trivial, ?_⟩⟩
  refine isC (fun h0 => ⟨trivial, isC (fun h1 => ?_) fun h1 => cl ?_⟩) fun h0 => isN rfl (cl ?_)
  · refine lcP_map (signsD x) (fun d => match d with | .str z => .bl (strIn z LETTERS) | _ => .non) ⟨rfl, rfl⟩ (by rw [signs_len]; exact hx) (fun d hd S' e => ?_) ⟨x.cps.toList.map fun c => decide (c ∈ LETTERS.cps.toList), ?_, cl ?_⟩
    · obtain ⟨c, hc, rfl⟩ := List.mem_map.mp hd
      exact ⟨rfl, rfl⟩
    · show some _ = some _
      unfold signsD
      rw [List.map_map, List.map_map]
      congr 1
      refine List.map_congr_left fun c hc => ?_
      show D.bl (strIn ⟨#[c]⟩ LETTERS) = _
      rw [strIn_one]
      rfl
    · have e : nameOk x = (List.map (fun c => decide (c ∈ LETTERS.cps.toList)) x.cps.toList).all id := by
        have h0' : (0 : Int) < x.length := of_decide_eq_true h0
        have h1' : (x.length : Int) < 9 := of_decide_eq_true h1
        unfold nameOk
        rw [decide_eq_true (by omega), decide_eq_true (by omega), List.all_map]
        rfl
      rw [← e]
      exact q
  · have h1' : ¬ (x.length : Int) < 9 := of_decide_eq_false h1
    have e : nameOk x = false := by
      unfold nameOk
      rw [decide_eq_false (show ¬ x.length < 9 by omega)]
      simp
    rw [e] at q
    exact q
  · have h1' : ¬ (0 : Int) < x.length := of_decide_eq_false h0
    have e : nameOk x = false := by
      unfold nameOk
      rw [decide_eq_false (show ¬ 0 < x.length by omega)]
      simp
    rw [e] at q
    exact q
end L2.DL

namespace L2.DL
open PySem PySem.Spec PyProof.Rows
/-! ### names, places, ties as data -/
abbrev plD (ps : List Str) : List D := ps.map D.str
def prD (t : Str × Str) : D := .tup [.str t.1, .str t.2]
def mkD (ts : List (Str × Str)) : List (D × D) := ts.map fun t => (prD t, .bl true)
def webD (W : Addr) (ps : List Str) (ts : List (Str × Str)) : D := .ins W [("row", .tf (plD ps)), ("pairs", .tf (ts.map prD)), ("marks", .dic true (mkD ts))]
structure WebOk (ps : List Str) (ts : List (Str × Str)) : Prop where
  pos : 0 < ps.length
  few : ps.length ≤ 40
  nm : ∀ p ∈ ps, nameOk p = true
  nd : ps.Nodup
  tfew : ts.length ≤ 200
  tie : ∀ t ∈ ts, t.1 ∈ ps ∧ t.2 ∈ ps ∧ t.1 ≠ t.2
  tnd : ts.Nodup
abbrev sOk (x : Str) : Prop := PyData.canLay0 (.str x) = true
theorem sOk_of {x : Str} (h : ∀ c ∈ x.cps.toList, c < 0x110000) : sOk x := by
  show PyData.canLay0 (.str x) = true
  simp only [PyData.canLay0, PyData.strOk]
  rw [Array.all_eq_true_iff_forall_mem]
  intro c hc
  exact decide_eq_true (h c (by simpa using hc))
theorem letters_small : ∀ c ∈ LETTERS.cps.toList, c < 0x110000 := by decide +kernel
theorem name_chars {x : Str} (h : nameOk x = true) : 0 < x.length ∧ x.length < 9 ∧ ∀ c ∈ x.cps.toList, c ∈ LETTERS.cps.toList := by
  unfold nameOk at h
  rw [Bool.and_eq_true, Bool.and_eq_true] at h
  refine ⟨of_decide_eq_true h.1, of_decide_eq_true h.2.1, fun c hc => ?_⟩
  exact of_decide_eq_true (List.all_eq_true.mp h.2.2 c hc)
theorem name_sOk {x : Str} (h : nameOk x = true) : sOk x := sOk_of fun c hc => letters_small c ((name_chars h).2.2 c hc)
theorem name_len {x : Str} (h : nameOk x = true) : x.length ≤ 1000000 := by have := (name_chars h).2.1; omega
theorem pyDs_strs : ∀ xs : List Str, pyDs (plD xs) = some (xs.map PyData.str)
  | [] => rfl
  | x :: xs => by
    show (pyD (.str x)).bind (fun p => (pyDs (plD xs)).map fun ps => p :: ps) = _
    rw [pyDs_strs xs]
    rfl
theorem canLayAll_map {α : Type} {f : α → PyData} : ∀ {xs : List α}, (∀ x ∈ xs, (f x).canLay0 = true) → PyData.canLayAll0 (xs.map f) = true
  | [], _ => by simp [PyData.canLayAll0]
  | x :: xs, h => by
    rw [List.map_cons]
    simp only [PyData.canLayAll0, Bool.and_eq_true]
    exact ⟨h x (List.mem_cons_self ..), canLayAll_map fun y hy => h y (List.mem_cons_of_mem _ hy)⟩
theorem depthAll_map {α : Type} {f : α → PyData} {n : Nat} : ∀ {xs : List α}, (∀ x ∈ xs, (f x).depth ≤ n) → PyData.depthAll (xs.map f) ≤ n
  | [], _ => by simp [PyData.depthAll]
  | x :: xs, h => by
    rw [List.map_cons]
    simp only [PyData.depthAll]
    exact Nat.max_le.mpr ⟨h x (List.mem_cons_self ..), depthAll_map fun y hy => h y (List.mem_cons_of_mem _ hy)⟩
theorem shaped_of {p : PyData} (h : p.canLay0 = true) (hd : p.depth ≤ 64) : SeqAt.shaped p = true := by
  unfold SeqAt.shaped
  rw [h, decide_eq_true hd]
  rfl
theorem shaped_str {x : Str} (h : sOk x) : SeqAt.shaped (.str x) = true := shaped_of h (by simp [PyData.depth])
theorem shaped_list {α : Type} {f : α → PyData} {n : Nat} {xs : List α} (hn : n + 1 ≤ 64) (h : ∀ x ∈ xs, (f x).canLay0 = true) (hd : ∀ x ∈ xs, (f x).depth ≤ n) : SeqAt.shaped (.list (xs.map f)) = true := by
  refine shaped_of ?_ ?_
  · simp only [PyData.canLay0]
    exact canLayAll_map h
  · simp only [PyData.depth]
    have := depthAll_map hd
    omega
theorem eqv_str (a b : Str) : PyData.eqv (.str a) (.str b) = decide (a = b) := by
  simp only [PyData.eqv]
  by_cases h : a = b
  · rw [h]
    simp
  · rw [decide_eq_false h]
    simpa using h
theorem memStr {S : SO} {x : Str} {xs : List Str} {k : Bool → Prop} (hx : sOk x) (hxs : ∀ y ∈ xs, sOk y) (h : k (decide (x ∈ xs))) : memD S (.str x) (plD xs) k := by
  refine ⟨.str x, xs.map .str, rfl, pyDs_strs xs, shaped_str hx, shaped_list (n := 0) (by decide) hxs (fun y _ => by simp [PyData.depth]), ?_⟩
  have e : (xs.map PyData.str).any (fun z => PyData.eqv z (.str x)) = decide (x ∈ xs) := by
    rw [List.any_map]
    by_cases hm : x ∈ xs
    · rw [decide_eq_true hm, List.any_eq_true]
      exact ⟨x, hm, by show PyData.eqv (.str x) (.str x) = true; rw [eqv_str]; simp⟩
    · rw [decide_eq_false hm, List.any_eq_false]
      intro y hy
      show ¬ PyData.eqv (.str y) (.str x) = true
      rw [eqv_str]
      simp only [decide_eq_true_eq]
      exact fun e => hm (e ▸ hy)
  rw [e]
  exact h
theorem prD_inj {a b : Str × Str} (h : prD a = prD b) : a = b := by
  obtain ⟨a1, a2⟩ := a
  obtain ⟨b1, b2⟩ := b
  unfold prD at h
  simp at h
  rw [h.1, h.2]
theorem prD_key (t : Str × Str) : keyOk true (prD t) := ⟨_, [.inr t.1, .inr t.2], rfl, rfl⟩
theorem dget_mk {t : Str × Str} : ∀ {ts : List (Str × Str)}, (dget (mkD ts) (prD t)).isSome = decide (t ∈ ts)
  | [] => rfl
  | u :: ts => by
    show (dget ((prD u, .bl true) :: mkD ts) (prD t)).isSome = _
    rw [dget_cons]
    by_cases h : u = t
    · rw [if_pos (by rw [h]), decide_eq_true (by rw [h]; exact List.mem_cons_self ..)]
      rfl
    · rw [if_neg fun e => h (prD_inj e), dget_mk]
      have e : (t ∈ u :: ts) = (t ∈ ts) := by
        rw [List.mem_cons]
        exact propext ⟨fun z => z.elim (fun e => absurd e.symm h) id, .inr⟩
      simp only [e]
theorem nodup_map {α β : Type} {f : α → β} (hf : ∀ a b, f a = f b → a = b) : ∀ {l : List α}, l.Nodup → (l.map f).Nodup
  | [], _ => List.nodup_nil
  | x :: xs, h => by
    have h' := List.nodup_cons.mp h
    rw [List.map_cons, List.nodup_cons]
    refine ⟨fun hm => ?_, nodup_map hf h'.2⟩
    obtain ⟨y, hy, e⟩ := List.mem_map.mp hm
    exact h'.1 (hf _ _ e ▸ hy)
theorem mk_keys (ts : List (Str × Str)) (h : ts.Nodup) : ((mkD ts).map (·.1)).Nodup := by
  unfold mkD
  rw [List.map_map]
  exact nodup_map (fun a b e => prD_inj e) h
theorem dputs_mk {ts : List (Str × Str)} (h : ts.Nodup) : dputsL [] (mkD ts) = mkD ts := by
  have := dputsL_nodup (kvs := mkD ts) (acc := []) (fun p _ => rfl) (mk_keys ts h)
  simpa using this
end L2.DL

namespace L2.DL
open PySem PySem.Spec PyProof.Rows
theorem sIx_hi {n j : Nat} (h : j ≤ n) : HT.sIx n n (some (j : Int)) = j := by
  unfold HT.sIx
  show (if (j : Int) < 0 then _ else _) = _
  rw [if_neg (by omega)]
  omega
theorem sIx_lo0 {n : Nat} : HT.sIx n 0 none = 0 := rfl
theorem cut_pre {xs : List D} {j : Nat} (h : j ≤ xs.length) : cutD xs none (some (j : Int)) = xs.take j := by
  unfold cutD
  rw [sIx_lo0, sIx_hi h]
  simp
/-! ### wrong_place -/
def PlacesOk (ps : List Str) : Prop := ps.length ≤ 40 ∧ (∀ p ∈ ps, nameOk p = true) ∧ ps.Nodup
def sp_wrong_place (W : Addr) : DSp := fun ds S Q E => ∃ ps : List Str, ds = [.tf (plD ps)] ∧ PlacesOk ps ∧ Q .non S
def w_wrong_place (W : Addr) : WS := (wSeq (wFor (wEnum (wCons (wV 0) wNil)) (gT 2 (gC (gV 1) (gC (gV 2) gN))) (wIfS (wOr (wB (wO oEq (wV 1) (wC (.int 40)))) (wOr (wNot (wB (wFn (sp_is_name W) [] (wCons (wV 2) wNil)))) (wB (wO oIn (wV 2) (wSl (wV 0) pNone (pSome (wV 1))))))) (wRet (wV 1)) wNext))
    (wRet (wC .non)))
theorem plD_get {ps : List Str} {i : Nat} {d : D} (h : (plD ps)[i]? = some d) : ∃ x, ps[i]? = some x ∧ d = .str x := by
  rw [List.getElem?_map] at h
  obtain ⟨x, hx, rfl⟩ := Option.map_eq_some_iff.mp h
  exact ⟨x, hx, rfl⟩
theorem nodup_take {α : Type} {xs : List α} {i : Nat} {x : α} (h : xs.Nodup) (hi : xs[i]? = some x) : x ∉ xs.take i := by
  obtain ⟨hl, e⟩ := List.getElem?_eq_some_iff.mp hi
  intro hm
  obtain ⟨j, hj, e2⟩ := List.mem_iff_getElem.mp hm
  rw [List.getElem_take] at e2
  rw [List.length_take] at hj
  have hp := List.pairwise_iff_getElem.mp h j i (by omega) hl (by omega)
  exact hp (e2.trans e.symm)
theorem pure_wrong_place (W : Addr) : ∀ ds S Q E, sp_wrong_place W ds S Q E → w_wrong_place W (endsOf Q) (startD ["values", "index", "value"] ds) S := by
  rintro ds S Q E ⟨ps, rfl, ⟨hf, hn, hd⟩, q⟩
  refine ⟨⟨fun i sd S' => S' = S ∧ ∃ a b, sd = [some (.tf (plD ps)), a, b], ⟨rfl, none, none, rfl⟩, fun _ _ _ _ => trivial, ?_, ?_⟩⟩
  · rintro i d sd S' hi ⟨rfl, a, b, rfl⟩
    obtain ⟨x, hx, rfl⟩ := enumD_get hi
    obtain ⟨n, hn', rfl⟩ := plD_get hx
    have hl := (List.getElem?_eq_some_iff.mp hn').1
    have hm : n ∈ ps := List.mem_of_getElem? hn'
    refine ⟨rfl, rfl, isN (decide_eq_false (by omega)) ⟨n, rfl, name_len (hn n hm), isY (hn n hm) ?_⟩⟩
    refine ⟨fun h => ?_, Or.inl ⟨_, rfl, ?_⟩⟩
    · rw [sIx_hi (by rw [List.length_map]; omega), List.length_map] at h
      omega
    · have hc : cutD (plD ps) none (some (i : Int)) = plD (ps.take i) := by
        rw [cut_pre (by rw [List.length_map]; omega)]
        exact (List.map_take ..).symm
      rw [hc]
      exact memStr (name_sOk (hn n hm)) (fun y hy => name_sOk (hn y (List.mem_of_mem_take hy))) (isN (decide_eq_false (nodup_take hd hn')) ⟨rfl, _, _, rfl⟩)
  · rintro sd S' ⟨rfl, _⟩
    exact cl q
/-! ### is_pair -/
def sp_is_pair (W : Addr) : DSp := fun ds S Q E => ∃ (ps : List Str) (t : Str × Str), ds = [.tf (plD ps), prD t] ∧ (∀ p ∈ ps, sOk p) ∧ t.1 ∈ ps ∧ t.2 ∈ ps ∧ t.1 ≠ t.2 ∧ Q (.bl true) S
def w_is_pair (W : Addr) : WS := (wSeq (wIfS (wOr (wNot (wB (wCall (cIsi (.ty "tuple") (fTy "tuple" [])) (wCons (wV 1) (wCons (wC (.ty "tuple")) wNil))))) (wB (wO oNe (wCall cLen (wCons (wV 1) wNil)) (wC (.int 2))))) (wRet (wC (.bl false))) wNext)
    (wRet (wAndV (wCall cAll (wCons (wLcP (wSeqI (wV 1)) (.n 2) wYes (wAndV (wCall (cIsi (.ty "str") (fTy "str" [])) (wCons (wV 2) (wCons (wC (.ty "str")) wNil))) (wO oIn (wV 2) (wV 0))) [2]) wNil)) (wO oNe (wO oIx (wV 1) (wC (.int 0))) (wO oIx (wV 1) (wC (.int 1)))))))
theorem pure_is_pair (W : Addr) : ∀ ds S Q E, sp_is_pair W ds S Q E → w_is_pair W (endsOf Q) (startD ["places", "value", "place"] ds) S := by
  rintro ds S Q E ⟨ps, ⟨a, b⟩, rfl, hs, ha, hb, hab, q⟩
  refine ⟨rfl, _, _, rfl, rfl, isY rfl ?_⟩
  refine ⟨Or.inl ⟨_, rfl, isN rfl ?_⟩⟩
  refine lcP_map [.str a, .str b] (fun _ => .bl true) ⟨rfl, rfl⟩ (by show 2 ≤ 1000000; decide) (fun d hd S' e => ?_) ⟨[true, true], rfl, isY rfl ?_⟩
  · have hd' : d = .str a ∨ d = .str b := by simpa using hd
    rcases hd' with rfl | rfl
    · exact ⟨rfl, _, _, rfl, rfl, isY rfl (Or.inl ⟨_, rfl, memStr (hs a ha) hs ⟨rfl, by rw [decide_eq_true ha]⟩⟩)⟩
    · exact ⟨rfl, _, _, rfl, rfl, isY rfl (Or.inl ⟨_, rfl, memStr (hs b hb) hs ⟨rfl, by rw [decide_eq_true hb]⟩⟩)⟩
  · refine Or.inl ⟨[.str a, .str b], 0, .str a, rfl, rfl, rfl, Or.inl ⟨[.str a, .str b], 1, .str b, rfl, rfl, rfl, ?_⟩⟩
    have e : (!decide (a = b)) = true := by rw [decide_eq_false hab]; rfl
    show Cl Q (.bl (!decide (a = b))) S
    rw [e]
    exact cl q
end L2.DL

namespace L2.DL
open PySem PySem.Spec PyProof.Rows
/-! ### wrong_tie -/
structure TiesOk (ps : List Str) (ts : List (Str × Str)) : Prop where
  sok : ∀ p ∈ ps, sOk p
  few : ts.length ≤ 200
  tie : ∀ t ∈ ts, t.1 ∈ ps ∧ t.2 ∈ ps ∧ t.1 ≠ t.2
  nd : ts.Nodup
def sp_wrong_tie (W : Addr) : DSp := fun ds S Q E => ∃ (ps : List Str) (ts : List (Str × Str)), ds = [.tf (plD ps), .tf (ts.map prD)] ∧ TiesOk ps ts ∧ Q .non S
def w_wrong_tie (W : Addr) : WS := (wSeq (wAsg (wDnew true) (gV 2))
    (wSeq (wFor (wEnum (wCons (wV 1) wNil)) (gT 2 (gC (gV 3) (gC (gV 4) gN))) (wSeq (wIfS (wOr (wB (wO oEq (wV 3) (wC (.int 200)))) (wOr (wNot (wB (wFn (sp_is_pair W) [] (wCons (wV 0) (wCons (wV 4) wNil))))) (wB (wO oIn (wV 4) (wV 2))))) (wRet (wV 3)) wNext)
    (wAsg (wC (.bl true)) (gSubD (wV 2) (wV 4) sSub))))
    (wRet (wC .non))))
theorem prD_get {ts : List (Str × Str)} {i : Nat} {d : D} (h : (ts.map prD)[i]? = some d) : ∃ x, ts[i]? = some x ∧ d = prD x := by
  rw [List.getElem?_map] at h
  obtain ⟨x, hx, rfl⟩ := Option.map_eq_some_iff.mp h
  exact ⟨x, hx, rfl⟩
theorem mkD_snoc {ts : List (Str × Str)} {i : Nat} {t : Str × Str} (h : ts.Nodup) (hi : ts[i]? = some t) : dput (mkD (ts.take i)) (prD t) (.bl true) = mkD (ts.take (i + 1)) := by
  have hn := dget_mk (t := t) (ts := ts.take i)
  rw [decide_eq_false (nodup_take h hi)] at hn
  have h0 : dget (mkD (ts.take i)) (prD t) = none := by
    cases q : dget (mkD (ts.take i)) (prD t) with
    | none => rfl
    | some d =>
      rw [q] at hn
      cases hn
  rw [dput_new h0, List.take_add_one, hi]
  unfold mkD
  rw [List.map_append]
  rfl
theorem pure_wrong_tie (W : Addr) : ∀ ds S Q E, sp_wrong_tie W ds S Q E → w_wrong_tie W (endsOf Q) (startD ["places", "values", "seen", "index", "value"] ds) S := by
  rintro ds S Q E ⟨ps, ts, rfl, T, q⟩
  intro p hp
  refine ⟨⟨fun i sd S' => S' = S.set p (.dic true (mkD (ts.take i))) ∧ ∃ a b, sd = [some (.tf (plD ps)), some (.tf (ts.map prD)), some (.obj p), a, b], ⟨rfl, none, none, rfl⟩, fun _ _ _ _ => trivial, ?_, ?_⟩⟩
  · rintro i d sd S' hi ⟨rfl, a, b, rfl⟩
    obtain ⟨x, hx, rfl⟩ := enumD_get hi
    obtain ⟨t, ht, rfl⟩ := prD_get hx
    have hl := (List.getElem?_eq_some_iff.mp ht).1
    have hm : t ∈ ts := List.mem_of_getElem? ht
    obtain ⟨t1, t2, t3⟩ := T.tie t hm
    have hf := T.few
    refine ⟨rfl, rfl, isN (decide_eq_false (by omega)) ⟨ps, t, rfl, T.sok, t1, t2, t3, isY rfl (Or.inr ⟨true, mkD (ts.take i), ?_, prD_key t, isN ?_ ?_⟩)⟩⟩
    · show objD (S.set p (.dic true (mkD (ts.take i))) p) = some (true, mkD (ts.take i))
      rw [set_same]
      rfl
    · rw [dget_mk]
      exact decide_eq_false (nodup_take T.nd ht)
    · refine ⟨p, rfl, Or.inr ⟨true, mkD (ts.take i), set_same, prD_key t, ?_, ?_, _, _, rfl⟩⟩
      · unfold mkD
        rw [List.length_map, List.length_take]
        omega
      · rw [set_set, mkD_snoc T.nd ht]
  · rintro sd S' ⟨rfl, _⟩
    exact ⟨.non, S, Rf.dropS .non hp, q⟩
/-! ### check_places, check_ties -/
def sp_check_places (W : Addr) : DSp := fun ds S Q E => ∃ ps : List Str, ds = [.tf (plD ps)] ∧ PlacesOk ps ∧ ps ≠ [] ∧ Q .non S
def w_check_places (W : Addr) : WS := (wSeq (wIfS (wOr (wNot (wB (wCall (cIsi (.ty "tuple") (fTy "tuple" [])) (wCons (wV 0) (wCons (wC (.ty "tuple")) wNil))))) (wB (wO oEq (wV 0) (wTup wNil)))) wNever wNext)
    (wSeq (wAsg (wFn (sp_wrong_place W) [] (wCons (wV 0) wNil)) (gV 1))
    (wIfS (wB (wO oNotN (wV 1) (wC .non))) wNever wNext)))
theorem shaped_tupS {xs : List Str} (h : ∀ x ∈ xs, sOk x) : SeqAt.shaped (.tuple (xs.map PyData.str)) = true := by
  refine shaped_of ?_ ?_
  · simp only [PyData.canLay0]
    exact canLayAll_map h
  · simp only [PyData.depth]
    have := depthAll_map (f := PyData.str) (n := 0) (xs := xs) (fun y _ => by simp [PyData.depth])
    omega
theorem pure_check_places (W : Addr) : ∀ ds S Q E, sp_check_places W ds S Q E → w_check_places W (endsOf Q) (startD ["places", "wrong"] ds) S := by
  rintro ds S Q E ⟨ps, rfl, ok, hne, q⟩
  refine ⟨rfl, _, _, rfl, rfl, isY rfl ⟨by decide, .tuple (ps.map .str), .tuple [], ?_, rfl, shaped_tupS fun x hx => name_sOk (ok.2.1 x hx), by decide +kernel, isN ?_ ⟨ps, rfl, ok, rfl, isN rfl (cl q)⟩⟩⟩
  · show (pyDs (plD ps)).map PyData.tuple = _
    rw [pyDs_strs]
    rfl
  · cases ps with
    | nil => exact absurd rfl hne
    | cons x xs =>
      simp [PyData.eqv, PyData.eqvAll]
def sp_check_ties (W : Addr) : DSp := fun ds S Q E => ∃ (ps : List Str) (ts : List (Str × Str)), ds = [.tf (plD ps), .tf (ts.map prD)] ∧ TiesOk ps ts ∧ Q .non S
def w_check_ties (W : Addr) : WS := (wSeq (wIfS (wNot (wB (wCall (cIsi (.ty "tuple") (fTy "tuple" [])) (wCons (wV 1) (wCons (wC (.ty "tuple")) wNil))))) wNever wNext)
    (wSeq (wAsg (wFn (sp_wrong_tie W) [] (wCons (wV 0) (wCons (wV 1) wNil))) (gV 2))
    (wIfS (wB (wO oNotN (wV 2) (wC .non))) wNever wNext)))
theorem pure_check_ties (W : Addr) : ∀ ds S Q E, sp_check_ties W ds S Q E → w_check_ties W (endsOf Q) (startD ["places", "ties", "wrong"] ds) S := by
  rintro ds S Q E ⟨ps, ts, rfl, ok, q⟩
  exact ⟨rfl, _, _, rfl, rfl, isY rfl ⟨ps, ts, rfl, ok, rfl, isN rfl (cl q)⟩⟩
/-! ### Web.__init__ -/
def fsD (ps : List Str) (ts : List (Str × Str)) : List (Str × D) := [("row", .tf (plD ps)), ("pairs", .tf (ts.map prD)), ("marks", .dic true (mkD ts))]
def sp_Web_init (W : Addr) : DSp := fun ds S Q E => ∃ (p : Addr) (ps : List Str) (ts : List (Str × Str)), ds = [.obj p, .tf (plD ps), .tf (ts.map prD)] ∧ S p = some (.ins W []) ∧ WebOk ps ts ∧ Q .non (S.set p (.ins W (fsD ps ts)))
def w_Web_init (W : Addr) : WS := (wSeq (wDrop (wFn (sp_check_places W) [] (wCons (wV 1) wNil)))
    (wSeq (wDrop (wFn (sp_check_ties W) [] (wCons (wV 1) (wCons (wV 2) wNil))))
    (wSeq (wSetF W "row" (wV 0) (wV 1))
    (wSeq (wSetF W "pairs" (wV 0) (wV 2))
    (wSetF W "marks" (wV 0) (wDcP true (wSeqI (wV 2)) (.n 3) wYes (wV 3) (wC (.bl true)) [3]))))))
theorem WebOk.places {ps : List Str} {ts : List (Str × Str)} (h : WebOk ps ts) : PlacesOk ps := ⟨h.few, h.nm, h.nd⟩
theorem WebOk.ties {ps : List Str} {ts : List (Str × Str)} (h : WebOk ps ts) : TiesOk ps ts := ⟨fun p hp => name_sOk (h.nm p hp), h.tfew, h.tie, h.tnd⟩
theorem WebOk.ne {ps : List Str} {ts : List (Str × Str)} (h : WebOk ps ts) : ps ≠ [] := List.length_pos_iff.mp h.pos
theorem pure_Web_init (W : Addr) : ∀ ds S Q E, sp_Web_init W ds S Q E → w_Web_init W (endsOf Q) (startD ["self", "places", "ties", "tie"] ds) S := by
  rintro ds S Q E ⟨p, ps, ts, rfl, hp, ok, q⟩
  refine ⟨ps, rfl, ok.places, ok.ne, ps, ts, rfl, ok.ties, p, _, rfl, hp, lez rfl, p, _, rfl, set_same, lez rfl, ?_⟩
  refine dcP_of (ts.map prD) (fun d => some (d, .bl true)) ⟨rfl, rfl⟩ (by rw [List.length_map]; have := ok.tfew; omega) (fun d hd S' e => ⟨rfl, upI ⟨rfl, ?_, upI ⟨rfl, rfl⟩⟩⟩) ⟨p, _, rfl, set_same, lez rfl, ?_⟩
  · obtain ⟨t, _, rfl⟩ := List.mem_map.mp hd
    exact prD_key t
  · have e : dputsL [] ((ts.map prD).filterMap fun d => some (d, D.bl true)) = mkD ts := by
      rw [List.filterMap_eq_map', List.map_map]
      exact dputs_mk ok.tnd
    rw [e, set_set, set_set]
    exact cl q
/-! ### has_tie, check_web, check_place -/
def sp_Web_has_tie (W : Addr) : DSp := fun ds S Q E => ∃ (ps : List Str) (ts : List (Str × Str)) (a b : Str), ds = [webD W ps ts, .str a, .str b] ∧ Q (.bl (decide ((a, b) ∈ ts))) S
def sp_check_web (W : Addr) : DSp := fun ds S Q E => ∃ (ps : List Str) (ts : List (Str × Str)), ds = [webD W ps ts] ∧ Q .non S
end L2.DL

namespace L2.DL
open PySem PySem.Spec PyProof.Rows
/-! ### nexts_of -/
end L2.DL

namespace L2.DL
open PySem PySem.Spec PyProof.Rows
/-! ### what is reached -/
def Succ (nx : List (List Nat)) (i j : Nat) : Prop := ∃ r, nx[i]? = some r ∧ j ∈ r
inductive Reach (nx : List (List Nat)) (b : Nat) : Nat → Prop where
  | refl : Reach nx b b
  | step {i j : Nat} (h : Reach nx b i) (s : Succ nx i j) : Reach nx b j
abbrev iD (i : Nat) : D := .int (i : Nat)
theorem nodup_lt : ∀ {n : Nat} {ks : List Nat}, ks.Nodup → (∀ i ∈ ks, i < n) → ks.length ≤ n := by
  intro n
  induction n with
  | zero =>
    intro ks _ h
    cases ks with
    | nil => exact Nat.le_refl _
    | cons x xs => exact absurd (h x (List.mem_cons_self ..)) (Nat.not_lt_zero _)
  | succ n ih =>
    intro ks hn h
    by_cases hm : n ∈ ks
    · have h1 := ih (ks := ks.erase n) (hn.erase n) (fun i hi => by
        have h2 := h i (List.mem_of_mem_erase hi)
        have h3 : i ≠ n := fun e => by
          subst e
          exact absurd hi (hn.not_mem_erase)
        omega)
      rw [List.length_erase_of_mem hm] at h1
      omega
    · exact Nat.le_succ_of_le (ih hn fun i hi => by
        have h2 := h i hi
        have h3 : i ≠ n := fun e => hm (e ▸ hi)
        omega)
end L2.DL

namespace L2.DL
open PySem PySem.Spec PyProof.Rows
theorem pyS_lst {S : SO} {d : D} {xs : List D} {ps : List PyData} (h : lstD S d = some xs) (hp : pyDs xs = some ps) : pyS S d = some (.list ps) := by
  cases d with
  | lst ys =>
    cases h
    show (pyDs xs).map PyData.list = _
    rw [hp]
    rfl
  | obj a =>
    have h' : objL (S a) = some xs := h
    show (objL (S a)).bind (fun ds => (pyDs ds).map PyData.list) = _
    rw [h']
    show (pyDs xs).map PyData.list = _
    rw [hp]
    rfl
  | _ => cases h
theorem eqD_lst {S : SO} {d y : D} {xs : List D} {k : Bool → Prop} (h : lstD S d = some xs) (g : eqG d y S k) : eqD d y S k := by
  cases d with
  | lst ys => exact g
  | obj a => exact g
  | _ => cases h
theorem pyDs_ints : ∀ xs : List Int, pyDs (xs.map D.int) = some (xs.map PyData.int)
  | [] => rfl
  | x :: xs => by
    show (pyD (.int x)).bind (fun p => (pyDs (xs.map D.int)).map fun ps => p :: ps) = _
    rw [pyDs_ints xs]
    rfl
theorem pyDs_iD (xs : List Nat) : pyDs (xs.map iD) = some (xs.map fun i : Nat => PyData.int i) := by
  have := pyDs_ints (xs.map fun i : Nat => (i : Int))
  rwa [List.map_map, List.map_map] at this
theorem shaped_ints (xs : List Nat) : SeqAt.shaped (.list (xs.map fun i : Nat => PyData.int i)) = true := shaped_list (n := 0) (by decide) (fun x _ => by simp [PyData.canLay0]) (fun x _ => by simp [PyData.depth])
theorem neNil {S : SO} {d : D} {xs : List Nat} {k : Bool → Prop} (h : lstD S d = some (xs.map iD)) (hk : k xs.isEmpty) : eqD d (.lst []) S k := by
  refine eqD_lst h ⟨_, .list [], pyS_lst h (pyDs_iD xs), rfl, shaped_ints xs, by decide +kernel, ?_⟩
  cases xs with
  | nil => exact hk
  | cons x xs => exact hk
end L2.DL

namespace L2.DL
open PySem PySem.Spec PyProof.Rows
/-! ### leads -/
theorem mem_take_of {α : Type} {ps : List α} {a : α} {i j : Nat} (hi : ps[i]? = some a) (h : i < j) : a ∈ ps.take j := by
  obtain ⟨hl, e⟩ := List.getElem?_eq_some_iff.mp hi
  refine List.mem_iff_getElem.mpr ⟨i, by rw [List.length_take]; omega, ?_⟩
  rw [List.getElem_take]
  exact e
theorem nodup_ix {α : Type} {ps : List α} (nd : ps.Nodup) {a : α} {i j : Nat} (hi : ps[i]? = some a) (hj : ps[j]? = some a) : i = j := by
  rcases Nat.lt_trichotomy i j with h | h | h
  · exact absurd (mem_take_of hi h) (nodup_take nd hj)
  · exact h
  · exact absurd (mem_take_of hj h) (nodup_take nd hi)
end L2.DL

namespace L2.DL
open PySem PySem.Spec PyProof.Rows
/-! ### draws: a list of three numbers -/
abbrev pan3 (a b c : Int) : DO := .lst [.int a, .int b, .int c]
theorem seqX_obj {S : SO} {p : Addr} {xs : List D} (h : S p = some (.lst xs)) : seqX S (.obj p) = some xs := by
  show objL (S p) = some xs
  rw [h]
  rfl
theorem lstX_obj {S : SO} {p : Addr} {xs : List D} (h : S p = some (.lst xs)) : lstX S (.obj p) = some xs := by
  show objL (S p) = some xs
  rw [h]
  rfl
theorem cmulL {i j : Int} (h1 : -(2 ^ 64) < i) (h2 : i < 2 ^ 64) : CMul i j := .inl ⟨h1, h2⟩
theorem cmulR {i j : Int} (h1 : -(2 ^ 64) < j) (h2 : j < 2 ^ 64) : CMul i j := .inr ⟨h1, h2⟩
theorem len_ints {ns : List Int} (h : ns.length ≤ 63) : (ns.map D.int).length ≤ 63 := by rw [List.length_map]; exact h
theorem cut_sub {xs : List D} {lo hi : Option Int} : ∀ d ∈ cutD xs lo hi, d ∈ xs := fun d h => List.mem_of_mem_drop (List.mem_of_mem_take h)
theorem cut_len {xs : List D} {lo hi : Option Int} : (cutD xs lo hi).length ≤ xs.length := by
  unfold cutD
  rw [List.length_take, List.length_drop]
  omega
/-! ### _law_scoop, _law_pick -/
/-- the items of what does not change -/
def fz : D → Option (List D)
  | .lst xs => some xs
  | .tup xs => some xs
  | .tf xs => some xs
  | .src xs => some xs
  | .kt xs => some xs
  | _ => none
end L2.DL

namespace L2.DL
open PySem PySem.Spec PyProof.Rows
/-! ### drawn names -/
def letterAt (n : Nat) : Nat := LETTERS.cps.toList.getD n 0
theorem letters26 : LETTERS.cps.toList.length = 26 := by decide +kernel
theorem letters_nd : LETTERS.cps.toList.Nodup := by decide +kernel
theorem letterAt_get {n : Nat} (h : n < 26) : LETTERS.cps.toList[n]? = some (letterAt n) := by
  unfold letterAt
  rw [List.getD_eq_getElem?_getD, List.getElem?_eq_getElem (by rw [letters26]; exact h)]
  rfl
theorem letterAt_mem {n : Nat} (h : n < 26) : letterAt n ∈ LETTERS.cps.toList := List.mem_of_getElem? (letterAt_get h)
theorem letterAt_inj {i j : Nat} (hi : i < 26) (hj : j < 26) (h : letterAt i = letterAt j) : i = j := nodup_ix letters_nd (letterAt_get hi) (h ▸ letterAt_get hj)
structure NamesOk (ts : List Str) : Prop where
  nm : ∀ t ∈ ts, nameOk t = true
  nd : ts.Nodup
end L2.DL

namespace L2.DL
open PySem PySem.Spec PyProof.Rows
/-! ### drawn ties -/
theorem set_comm {S : SO} {a b : Addr} {x y : DO} (h : a ≠ b) : (S.set a x).set b y = (S.set b y).set a x := by
  funext c
  unfold SO.set
  by_cases h1 : c = b
  · rw [if_pos h1, if_neg fun e => h (e.symm.trans h1), if_pos h1]
  · rw [if_neg h1]
    by_cases h2 : c = a
    · rw [if_pos h2, if_pos h2]
    · rw [if_neg h2, if_neg h2, if_neg h1]
/-! ### _law_case, _law_made -/
end L2.DL

namespace L2.DL
open PySem PySem.Spec PyProof.Rows
/-! ### draws of the other family -/
end L2.DL

namespace L2.DL
open PySem PySem.Spec PyProof.Rows
/-! ### _law_folk: names -/
theorem map_nd {f : Nat → Str} {m : Nat} (h : ∀ i j, i < m → j < m → f i = f j → i = j) : ((List.range m).map f).Nodup := by
  refine List.pairwise_iff_getElem.mpr fun i j hi hj hij => ?_
  rw [List.length_map, List.length_range] at hi hj
  rw [List.getElem_map, List.getElem_map, List.getElem_range, List.getElem_range]
  intro e
  have := h i j hi hj e
  omega
/-! ### the stem -/
end L2.DL

namespace L2.DL
open PySem PySem.Spec PyProof.Rows
theorem upYesT {sd : SD} {S : SO} {Q : Bool → SO → Prop} (h : Q true S) : upT wYes sd S Q := ⟨fun b S2 => b = true ∧ S2 = S, ⟨rfl, rfl⟩, fun b S2 ⟨e1, e2⟩ => by rw [e1, e2]; exact h⟩
end L2.DL

namespace L2.DL
open PySem PySem.Spec PyProof.Rows
theorem set_self {S : SO} {a : Addr} {o : DO} (h : S a = some o) : S.set a o = S := by
  funext x
  by_cases e : x = a
  · rw [e, set_same, h]
  · exact set_ne e
theorem upYes {sd : SD} {S : SO} {Q : Bool → SO → Prop} (h : Q true S) : upT wYes sd S Q := ⟨fun b S2 => b = true ∧ S2 = S, ⟨rfl, rfl⟩, fun b S2 ⟨e1, e2⟩ => by rw [e1, e2]; exact h⟩
end L2.DL

namespace L2.DL
open PySem PySem.Spec PyProof.Rows
/-! ### equality of rows of texts and of pairs -/
theorem WebOk.sok {ps : List Str} {ts : List (Str × Str)} (ok : WebOk ps ts) : ∀ p ∈ ps, sOk p := fun p hp => name_sOk (ok.nm p hp)
theorem WebOk.add {ps : List Str} {ts : List (Str × Str)} (ok : WebOk ps ts) {t : Str × Str} (h1 : t.1 ∈ ps) (h2 : t.2 ∈ ps) (h3 : t.1 ≠ t.2) (h4 : t ∉ ts) (h5 : ts.length < 200) : WebOk ps (ts ++ [t]) := by
  refine ⟨ok.pos, ok.few, ok.nm, ok.nd, by rw [List.length_append, List.length_singleton]; omega, fun u hu => ?_, ?_⟩
  · rcases List.mem_append.mp hu with hu | hu
    · exact ok.tie u hu
    · rw [List.mem_singleton] at hu
      subst hu
      exact ⟨h1, h2, h3⟩
  · rw [List.nodup_append]
    refine ⟨ok.tnd, by simp, fun a ha b hb e => ?_⟩
    rw [List.mem_singleton] at hb
    exact h4 (hb ▸ e ▸ ha)
def woT (ts : List (Str × Str)) (t : Str × Str) : List (Str × Str) := ts.filter fun u => !decide (u = t)
theorem WebOk.wo {ps : List Str} {ts : List (Str × Str)} (ok : WebOk ps ts) (t : Str × Str) : WebOk ps (woT ts t) :=
  ⟨ok.pos, ok.few, ok.nm, ok.nd, Nat.le_trans (List.length_filter_le _ _) ok.tfew, fun u hu => ok.tie u (List.mem_filter.mp hu).1, List.Nodup.sublist List.filter_sublist ok.tnd⟩
/-! ### with_tie, without_tie, turned -/
/-! ### == and != of webs -/
end L2.DL

namespace L2.DL
open PySem PySem.Spec PyProof.Rows
/-! ### _law_ties, _law_net, _law_made -/
theorem NamesOk.sok {ts : List Str} (N : NamesOk ts) : ∀ t ∈ ts, sOk t := fun t ht => name_sOk (N.nm t ht)
end L2.DL

namespace L2.DL
open PySem PySem.Spec PyProof.Rows
/-! ### what repr may show -/
end L2.DL

namespace L2.DL
open PySem PySem.Spec PyProof.Rows
/-! ### k07: turned -/
end L2.DL

namespace L2.DL
open PySem PySem.Spec PyProof.Rows
/-! ### law, as most laws of the family have it -/
def RightSp (right : DSp) : Prop := ∀ (p : Addr) (a b c : Int) (S : SO) (Q : KD), S p = some (pan3 a b c) → (∀ a' b' c', Q (.bl true) (S.set p (pan3 a' b' c'))) → right [.obj p] S Q NoE
end L2.DL

namespace L2.DL
open PySem PySem.Spec PyProof.Rows
end L2.DL

namespace L2.DL
open PySem PySem.Spec PyProof.Rows
/-! ### roads and partings, good ones -/
def sp_Web_len (W : Addr) : DSp := fun ds S Q E => ∃ (ps : List Str) (ts : List (Str × Str)), ds = [webD W ps ts] ∧ ps.length ≤ 1000 ∧ Q (.int (ps.length : Nat)) S
def w_Web_len (W : Addr) : WS := (wRet (wCall cLen (wCons (wFld W "row" (wV 0)) wNil)))
theorem pure_Web_len (W : Addr) : ∀ ds S Q E, sp_Web_len W ds S Q E → w_Web_len W (endsOf Q) (startD ["self"] ds) S := by
  rintro ds S Q E ⟨ps, ts, rfl, hl, q⟩
  refine ⟨_, _, ⟨rfl, rfl⟩, rfl, ⟨Or.inl ⟨_, rfl, cl ?_⟩⟩⟩
  rw [List.length_map]
  exact q
structure RoadOk (ps : List Str) (ts : List (Str × Str)) (r : List Str) : Prop where
  ne : r ≠ []
  nd : r.Nodup
  sub : ∀ x ∈ r, x ∈ ps
  step : ∀ i a b, r[i]? = some a → r[i + 1]? = some b → (a, b) ∈ ts
def TupD (d : D) (xs : List D) : Prop := d = .tf xs ∨ d = .tup xs
theorem TupD.ty {d : D} {xs : List D} (h : TupD d xs) (S : SO) : tyX S d = some (.inl "tuple") := by
  rcases h with rfl | rfl <;> rfl
theorem TupD.seq {d : D} {xs : List D} (h : TupD d xs) (S : SO) : seqX S d = some xs := by
  rcases h with rfl | rfl <;> rfl
theorem RoadOk.len {ps : List Str} {ts : List (Str × Str)} {r : List Str} (h : RoadOk ps ts r) : 1 ≤ r.length ∧ r.length ≤ ps.length := by
  refine ⟨List.length_pos_iff.mpr h.ne, ?_⟩
  have nodup_sub : ∀ {a b : List Str}, a.Nodup → (∀ x ∈ a, x ∈ b) → a.length ≤ b.length := fun {a} => by
    induction a with
    | nil => intro b _ _; exact Nat.zero_le _
    | cons x a ih =>
      intro b h hs
      have h' := List.nodup_cons.mp h
      have h1 := ih (b := b.erase x) h'.2 fun y hy => by
        have hne : y ≠ x := fun e => h'.1 (e ▸ hy)
        exact (List.mem_erase_of_ne hne).mpr (hs y (List.mem_cons_of_mem _ hy))
      have hx := hs x (List.mem_cons_self ..)
      rw [List.length_erase_of_mem hx] at h1
      have := List.length_pos_of_mem hx
      rw [List.length_cons]
      omega
  exact nodup_sub h.nd h.sub
end L2.DL

namespace L2.DL
open PySem PySem.Spec PyProof.Rows
inductive Rows : List D → List (List Str) → Prop
  | nil : Rows [] []
  | cons {d : D} {r : List Str} {ds : List D} {rs : List (List Str)} (h : TupD d (plD r)) (t : Rows ds rs) : Rows (d :: ds) (r :: rs)
theorem Rows.len {ds : List D} {rs : List (List Str)} (h : Rows ds rs) : ds.length = rs.length := by
  induction h with
  | nil => rfl
  | cons _ _ ih => rw [List.length_cons, List.length_cons, ih]
theorem Rows.mem {ds : List D} {rs : List (List Str)} (h : Rows ds rs) : ∀ d ∈ ds, ∃ r ∈ rs, TupD d (plD r) := by
  induction h with
  | nil => intro d h; cases h
  | cons h _ ih =>
    intro d hd
    rcases List.mem_cons.mp hd with rfl | hd
    · exact ⟨_, List.mem_cons_self .., h⟩
    · obtain ⟨r, hr, t⟩ := ih d hd
      exact ⟨r, List.mem_cons_of_mem _ hr, t⟩
theorem TupD.fz {d : D} {xs : List D} (h : TupD d xs) : DL.fz d = some xs := by
  rcases h with rfl | rfl <;> rfl
def unD (d : D) : List D := (fz d).getD []
theorem TupD.un {d : D} {xs : List D} (h : TupD d xs) : unD d = xs := by
  unfold unD
  rw [h.fz]
  rfl
/-! ### singles, lasts -/
def lastS (r : List Str) : Str := r.getLastD Str.empty
end L2.DL

namespace L2.DL
open PySem PySem.Spec PyProof.Rows
theorem last_plD {r : List Str} (h : r ≠ []) : (plD r).getLast? = some (.str (lastS r)) := by
  show (r.map D.str).getLast? = _
  rw [List.getLast?_map]
  unfold lastS
  rw [List.getLastD_eq_getLast?]
  cases e : r.getLast? with
  | none => exact absurd (List.getLast?_eq_none_iff.mp e) h
  | some y => rfl
def lastD (d : D) : D := ((unD d).getLast?).getD .non
theorem lastD_of {d : D} {r : List Str} (T : TupD d (plD r)) (h : r ≠ []) : lastD d = .str (lastS r) := by
  unfold lastD
  rw [T.un, last_plD h]
  rfl
theorem Rows.lasts {ds : List D} {rs : List (List Str)} (h : Rows ds rs) (hn : ∀ r ∈ rs, r ≠ []) : ds.map lastD = plD (rs.map lastS) := by
  induction h with
  | nil => rfl
  | cons h _ ih =>
    rw [List.map_cons, ih fun r hr => hn r (List.mem_cons_of_mem _ hr), lastD_of h (hn _ (List.mem_cons_self ..))]
    rfl
/-! ### _law_walk -/
theorem eqNilS {S : SO} {xs : List Str} {k : Bool → Prop} (h : ∀ x ∈ xs, sOk x) (hk : k xs.isEmpty) : eqD (.lst (plD xs)) (.lst []) S k := by
  refine ⟨.list (xs.map .str), .list [], ?_, rfl, shaped_list (n := 0) (by decide) h (fun y _ => by simp [PyData.depth]), by decide +kernel, ?_⟩
  · show (pyDs (plD xs)).map PyData.list = _
    rw [pyDs_strs]
    rfl
  · cases xs with
    | nil => exact hk
    | cons x xs => exact hk
theorem RoadOk.more {ts : List Str} {ls : List (Str × Str)} {r : List Str} (R : RoadOk ts ls r) {x : Str} (h1 : x ∈ ts) (h2 : (lastS r, x) ∈ ls) (h3 : x ∉ r) : RoadOk ts ls (r ++ [x]) := by
  refine ⟨by simp, ?_, fun y hy => ?_, fun i a b ha hb => ?_⟩
  · rw [List.nodup_append]
    refine ⟨R.nd, by simp, fun a ha b hb e => ?_⟩
    rw [List.mem_singleton] at hb
    exact h3 (hb ▸ e ▸ ha)
  · rcases List.mem_append.mp hy with hy | hy
    · exact R.sub y hy
    · rw [List.mem_singleton] at hy
      exact hy ▸ h1
  · have hil := (List.getElem?_eq_some_iff.mp hb).1
    rw [List.length_append, List.length_singleton] at hil
    rw [List.getElem?_append_left (by omega)] at ha
    by_cases hb2 : i + 1 < r.length
    · rw [List.getElem?_append_left hb2] at hb
      exact R.step i a b ha hb
    · have e : i + 1 = r.length := by omega
      rw [e, List.getElem?_append_right (Nat.le_refl _), Nat.sub_self] at hb
      have eb : x = b := Option.some.inj hb
      have ea : lastS r = a := by
        unfold lastS
        rw [List.getLastD_eq_getLast?, List.getLast?_eq_getElem?, show r.length - 1 = i by omega, ha]
        rfl
      rw [← ea, ← eb]
      exact h2
theorem RoadOk.one {ts : List Str} {ls : List (Str × Str)} {x : Str} (h : x ∈ ts) : RoadOk ts ls [x] := by
  refine ⟨by simp, by simp, fun y hy => by rw [List.mem_singleton] at hy; rw [hy]; exact h, fun i a b h1 h2 => ?_⟩
  have := (List.getElem?_eq_some_iff.mp h2).1
  simp at this
end L2.DL

namespace L2.DL
open PySem PySem.Spec PyProof.Rows
/-! ### _law_rows -/
def inner (ls : List (Str × Str)) (left : List Str) : List (Str × Str) := ls.filter fun t => decide (t.1 ∈ left) && decide (t.2 ∈ left)
def tupsD (rs : List (List Str)) : List D := rs.map fun r => .tup (plD r)
end L2.DL

namespace L2.DL
open PySem PySem.Spec PyProof.Rows
/-! ### rows turned round -/
def headS (r : List Str) : Str := r.headD Str.empty
def headD (d : D) : D := ((unD d).head?).getD .non
theorem heads {rs : List (List Str)} (h : ∀ r ∈ rs, r ≠ []) : (tupsD rs).map headD = plD (rs.map headS) := by
  unfold tupsD plD
  rw [List.map_map, List.map_map]
  refine List.map_congr_left fun r hr => ?_
  have := h r hr
  cases r with
  | nil => exact absurd rfl this
  | cons x xs => rfl
/-! what repr shows -/
end L2.DL

namespace L2.DL
open PySem PySem.Spec PyProof.Rows
/-! ### steps for webs -/
instance : InjD prD := ⟨fun _ _ h => prD_inj h⟩
section
variable {W : Addr} {ps : List Str} {ts : List (Str × Str)} {S : SO} {Q : KD} {E : EK} {A : Prop} {a b : Str}
theorem fldRow (h : Q (.tf (plD ps)) S) : FldD W "row" (webD W ps ts) S Q := ⟨_, _, ⟨rfl, rfl⟩, rfl, h⟩
theorem fldPairs (h : Q (.tf (ts.map prD)) S) : FldD W "pairs" (webD W ps ts) S Q := ⟨_, _, ⟨rfl, rfl⟩, rfl, h⟩
theorem fldMarks (h : Q (.dic true (mkD ts)) S) : FldD W "marks" (webD W ps ts) S Q := ⟨_, _, ⟨rfl, rfl⟩, rfl, h⟩
theorem mthTie {m : Str} (h : A) (hm : (fsD ps ts).lookup m = none := by with_unfolding_all rfl) : MthD W m (webD W ps ts) S A := ⟨⟨_, ⟨rfl, rfl⟩, hm⟩, h⟩
theorem hasTie (h : Q (.bl (decide ((a, b) ∈ ts))) S) : sp_Web_has_tie W [webD W ps ts, .str a, .str b] S Q E := ⟨ps, ts, a, b, rfl, h⟩
theorem chkWeb (h : Q .non S) : sp_check_web W [webD W ps ts] S Q E := ⟨ps, ts, rfl, h⟩
theorem lenWeb (hl : ps.length ≤ 1000) (h : Q (.int (ps.length : Nat)) S) : cLenO W (sp_Web_len W) [webD W ps ts] S Q := ⟨⟨_, rfl, rfl⟩, ps, ts, rfl, hl, ps.length, rfl, by omega, h⟩
end
/-! isinstance -/
section
variable {S : SO} {Q : KD} {xs : List D} {x : Str} {i : Int} {b : Bool}
theorem isiTup (h : Q (.bl true) S) : cIsi (.ty "tuple") (fTy "tuple" []) [.tup xs, .ty "tuple"] S Q := ⟨rfl, _, _, rfl, rfl, h⟩
theorem isiTf (h : Q (.bl true) S) : cIsi (.ty "tuple") (fTy "tuple" []) [.tf xs, .ty "tuple"] S Q := ⟨rfl, _, _, rfl, rfl, h⟩
theorem isiStr (h : Q (.bl true) S) : cIsi (.ty "str") (fTy "str" []) [.str x, .ty "str"] S Q := ⟨rfl, _, _, rfl, rfl, h⟩
end
/-! in, equal -/
section
variable {S : SO} {Q : KD} {x : Str} {xs : List Str} {a b : Str} {ls : List (Str × Str)}
theorem inTf (h : Q (.bl (decide (x ∈ xs))) S) (hx : sOk x) (hxs : ∀ y ∈ xs, sOk y) : oIn (.str x) (.tf (plD xs)) S Q := .inl ⟨_, rfl, memStr hx hxs h⟩
theorem inTup (h : Q (.bl (decide (x ∈ xs))) S) (hx : sOk x) (hxs : ∀ y ∈ xs, sOk y) : oIn (.str x) (.tup (plD xs)) S Q := .inl ⟨_, rfl, memStr hx hxs h⟩
theorem inLst (h : Q (.bl (decide (x ∈ xs))) S) (hx : sOk x) (hxs : ∀ y ∈ xs, sOk y) : oIn (.str x) (.lst (plD xs)) S Q := .inl ⟨_, rfl, memStr hx hxs h⟩
theorem ninTf (h : Q (.bl (!decide (x ∈ xs))) S) (hx : sOk x) (hxs : ∀ y ∈ xs, sOk y) : oNotIn (.str x) (.tf (plD xs)) S Q := .inl ⟨_, rfl, memStr hx hxs h⟩
theorem ninTup (h : Q (.bl (!decide (x ∈ xs))) S) (hx : sOk x) (hxs : ∀ y ∈ xs, sOk y) : oNotIn (.str x) (.tup (plD xs)) S Q := .inl ⟨_, rfl, memStr hx hxs h⟩
theorem ninLst (h : Q (.bl (!decide (x ∈ xs))) S) (hx : sOk x) (hxs : ∀ y ∈ xs, sOk y) : oNotIn (.str x) (.lst (plD xs)) S Q := .inl ⟨_, rfl, memStr hx hxs h⟩
end
/-! objects: a cup at p, a list at f -/
section
variable {S : SO} {p f : Addr} {u u' v v' : DO}
theorem so_p (h : p ≠ f) : ((S.set p u).set f v) p = some u := by rw [set_ne h, set_same]
theorem so_pp (h : p ≠ f) : ((S.set p u).set f v).set p u' = (S.set p u').set f v := by rw [set_comm h.symm, set_set]
theorem so_pf (h : p ≠ f) : (S.set f v).set p u' = (S.set p u').set f v := set_comm h.symm
end
/-! draws -/
section
variable {W : Addr} {S : SO} {Q : KD} {E : EK} {p : Addr} {a b c : Int}
end
end L2.DL

namespace L2.DL
open PySem PySem.Spec PyProof.Rows
end L2.DL

namespace L2.DL
open PySem PySem.Spec PyProof.Rows
/-! ### _law_far -/
theorem strD_inj {a b : Str} (h : D.str a = D.str b) : a = b := by injection h
end L2.DL

namespace L2.DL
open PySem PySem.Spec PyProof.Rows
/-! draws of this family, typed -/
end L2.DL

namespace L2.DL
open PySem PySem.Spec PyProof.Rows
/-! ### steps, as mathematics: from a parting to a witness, or to a parting with fewer roads -/
def lasts (rs : List (List Str)) : List Str := rs.map lastS
theorem lstS_eq {r : List Str} (h : r ≠ []) : r.getLast? = some (lastS r) := by
  unfold lastS
  rw [List.getLastD_eq_getLast?]
  cases e : r.getLast? with
  | none => exact absurd (List.getLast?_eq_none_iff.mp e) h
  | some x => rfl
section
variable {ps : List Str} {ts : List (Str × Str)} {rs A B : List (List Str)} {r : List Str} {x y fresh : Str}
/-- a road more at its end -/
theorem RoadOk.snoc (h : RoadOk ps ts r) (hx : fresh ∈ ps) (hn : fresh ∉ r) (ht : (lastS r, fresh) ∈ ts) : RoadOk ps ts (r ++ [fresh]) := by
  refine ⟨by simp, ?_, fun z hz => ?_, fun i a b ha hb => ?_⟩
  · rw [List.nodup_append]
    exact ⟨h.nd, by simp, fun a ha b hb e => hn (by rw [List.mem_singleton] at hb; rw [← hb, ← e]; exact ha)⟩
  · rcases List.mem_append.mp hz with hz | hz
    · exact h.sub z hz
    · rw [List.mem_singleton.mp hz]
      exact hx
  · by_cases hi : i + 1 < r.length
    · rw [List.getElem?_append_left (by omega)] at ha
      rw [List.getElem?_append_left hi] at hb
      exact h.step i a b ha hb
    · have hl : i + 1 < (r ++ [fresh]).length := (List.getElem?_eq_some_iff.mp hb).1
      rw [List.length_append, List.length_singleton] at hl
      have hi2 : i + 1 = r.length := by omega
      rw [List.getElem?_append_left (by omega)] at ha
      rw [List.getElem?_append_right (by omega), hi2, Nat.sub_self] at hb
      have hb : fresh = b := Option.some.inj hb
      subst hb
      have e := lstS_eq h.ne
      rw [List.getLast?_eq_getElem?, show r.length - 1 = i by omega, ha] at e
      injection e with e
      rw [e]
      exact ht
/-- a road without its last place -/
theorem RoadOk.cut (h : RoadOk ps ts (r ++ [fresh])) (hr : r ≠ []) : RoadOk ps ts r := by
  refine ⟨hr, (List.nodup_append.mp h.nd).1, fun z hz => h.sub z (List.mem_append_left _ hz), fun i a b ha hb => ?_⟩
  have l1 := (List.getElem?_eq_some_iff.mp ha).1
  have l2 := (List.getElem?_eq_some_iff.mp hb).1
  exact h.step i a b (by rw [List.getElem?_append_left l1]; exact ha) (by rw [List.getElem?_append_left l2]; exact hb)
theorem RoadOk.tie (h : RoadOk ps ts (r ++ [fresh])) (hr : r ≠ []) : (lastS r, fresh) ∈ ts := by
  have hl : 0 < r.length := List.length_pos_iff.mpr hr
  have e := lstS_eq hr
  rw [List.getLast?_eq_getElem?] at e
  refine h.step (r.length - 1) _ _ (by rw [List.getElem?_append_left (by omega)]; exact e) ?_
  rw [List.getElem?_append_right (by omega), show r.length - 1 + 1 - r.length = 0 by omega]
  rfl
end
end L2.DL

/-! DL66: repr of a truth; slices of .tf as .tf -/
namespace L2.DL
open PySem PySem.Spec PyProof.Rows
section
variable {X : Cx}
def boolS (b : Bool) : Str := if b = true then "True" else "False"
def cReprB : WL := fun xs S Q => one xs fun x => ∃ b : Bool, x = .bl b ∧ Q (.str (boolS b)) S
theorem dc_reprB : DC X (.builtin "repr") cReprB := by
  intro pins s σ H xs us Q I r ⟨ds, S, Q0, sr, rs, q, an⟩
  obtain ⟨x, rfl, b, rfl, q2⟩ := one_of q
  obtain ⟨v, rfl, rv⟩ := rs.v1
  obtain ⟨u, rfl, ru⟩ := vals1 r
  have e1 : v = .bl b := rv
  subst e1
  have e2 : u = .bool b := ru
  subst e2
  refine PySem.P.repr_of_bool ⟨.str (boolS b), H, I.tok _, ⟨s.toks, ?_⟩, ansd (.str _) sr an q2 rfl⟩
  cases b <;> rfl
theorem boolS_inj {a b : Bool} : boolS a = boolS b ↔ a = b := by
  cases a <;> cases b <;> decide +kernel
theorem neBoolS {S : SO} {Q : KD} {a b : Bool} (h : Q (.bl (!decide (a = b))) S) : oNe (.str (boolS a)) (.str (boolS b)) S Q := by
  refine sNe ?_
  rw [show decide (boolS a = boolS b) = decide (a = b) from decide_eq_decide.mpr boolS_inj]
  exact h
def wSlG (we : WE) (tl th : WP) : WE := fun sd S Q => we sd S fun d S1 => tl sd S1 fun lo S2 => th sd S2 fun hi S3 => ∃ xs, d = .tf xs ∧ Q (.tf (cutD xs lo hi)) S3
theorem cut_whole {xs : List D} {lo hi : Option Int} (h : WholeS xs.length lo hi) : cutD xs lo hi = xs := by
  unfold cutD
  rw [h.1, h.2, List.drop_zero, Nat.sub_zero, List.take_length]
theorem sl_G : SlR X (fun x lo hi H Q => ∃ d S Q0, SRel X.K S H ∧ Rel X.K S H d x ∧ (∃ xs, d = .tf xs ∧ Q0 (.tf (cutD xs lo hi)) S) ∧ Ans X.K S H Q0 Q) := by
  intro pins s σ H x v vl vu lo hi sl Q I rx hs pl pu ⟨d, S, Q0, sr, r, ⟨xs, e, q⟩, an⟩
  subst e
  by_cases hw : WholeS xs.length lo hi
  · rw [cut_whole hw] at q
    exact sl_T pins s σ H x v vl vu lo hi sl Q I rx hs pl pu ⟨.tf xs, S, Q0, sr, r, ⟨xs, rfl, fun _ => q, fun z => absurd hw z⟩, an⟩
  · exact sl_F pins s σ H x v vl vu lo hi sl Q I rx hs pl pu ⟨.tf xs, S, Q0, sr, r, ⟨xs, rfl, hw, q⟩, an⟩
theorem de_slG {a : Expr} {lo hi : Option Expr} {we : WE} {tl th : WP} {pos p2 : Pos} (ha : DE X a we) (hl : DP X lo tl) (hh : DP X hi th) : DE X (.Subscript a (.Slice lo hi none p2) pos) (wSlG we tl th) :=
  pe_imp (pe_slice sl_G ha hl hh) fun σ H Q ⟨sd, S, Q0, st, q, an⟩ => ⟨sd, S, _, st, q, fun d S1 v H1 q1 n1 s1 r1 => ⟨sd, S1, _, st.nx n1 s1, q1, fun o S2 H2 q2 n2 s2 => ⟨sd, S2, _, (st.nx n1 s1).nx n2 s2, q2, fun o3 S3 H3 q3 n3 s3 =>
    ⟨d, S3, Q0, s3, (Rel.nx (n2.trans n3) _ _ r1), q3, an.nx (n1.trans (n2.trans n3))⟩⟩⟩⟩
theorem xSlG {we : WE} {tl th : WP} {sd : SD} {S : SO} {Q : KD} (h : we sd S fun d S1 => tl sd S1 fun lo S2 => th sd S2 fun hi S3 => ∃ xs, d = .tf xs ∧ Q (.tf (cutD xs lo hi)) S3) : wSlG we tl th sd S Q := h
end
end L2.DL

/-! DL67: list(range(a, b)) as an object -/
namespace L2.DL
open PySem PySem.Spec PyProof.Rows
section
variable {X : Cx}
def rgDD (a b : Int) : List D := (List.range (b - a).toNat).map fun i : Nat => .int (a + (i : Int))
def wLstR2O (wa wb : WE) : WE := fun sd S Q => wa sd S fun x S1 => wb sd S1 fun y S2 => ∃ a b : Int, x = .int a ∧ y = .int b ∧ RgOk a b ∧ ∀ p, S2 p = none → Q (.obj p) (S2.set p (.lst (rgDD a b)))
theorem de_lstR2O {e f : Expr} {wa wb : WE} {p p2 pos pos2 : Pos} (hc : X.calm = true) (hm : X.mg "list" = none) (hm2 : X.mg "range" = none) (he : DE X e wa) (hf : DE X f wb) (hg : Gl X "list" := by rfl) (hg2 : Gl X "range" := by rfl)
    (na : starEach [e, f] X.env = (false, eval e X.env) :: starEach [f] X.env := by rfl) (na2 : starEach [f] X.env = (false, eval f X.env) :: starEach [] X.env := by rfl) (hp : (backTo pos2 (starEach [f] X.env)).any (·.1) = false := by rfl)
    (nb : starEach [.Call (.Name "range" p2) [e, f] [] pos2] X.env = (false, eval (.Call (.Name "range" p2) [e, f] [] pos2) X.env) :: starEach [] X.env := by rfl) : DE X (.Call (.Name "list" p) [.Call (.Name "range" p2) [e, f] [] pos2] [] pos) (wLstR2O wa wb) :=
  pe_imp (pe_listRg hc hg hm (prg_2 hg2 hm2 he hf na na2 hp) nb) fun σ H Q ⟨sd, S, Q0, st, q, an⟩ => ⟨sd, S, _, st, q, fun d S1 v H1 q1 n1 s1 r1 => ⟨sd, S1, _, st.nx n1 s1, q1, fun d2 S2 v2 H2 ⟨a, b, e1, e2, ok, q2⟩ n2 s2 r2 => by
    subst e1 e2
    have r1' := Rel.nx n2 _ _ r1
    refine ⟨a, b, r1', r2, ok, fun p hp => ?_⟩
    have n3 : Nx S2 H2 (S2.set p (.lst (rgDD a b))) (upd H2 p (.lst (rgV a b))) := nx_obj hp (s2.free hp)
    refine an (.obj p) _ (.ref p) _ (q2 p (s2.free hp)) (n1.trans (n2.trans n3)) (srel_put s2 n3 ⟨rgV a b, upd_same, ?_⟩) rfl
    exact rels_range _ _⟩⟩
theorem xLstR2O {wa wb : WE} {sd : SD} {S : SO} {Q : KD} (h : wa sd S fun x S1 => wb sd S1 fun y S2 => ∃ a b : Int, x = .int a ∧ y = .int b ∧ RgOk a b ∧ ∀ p, S2 p = none → Q (.obj p) (S2.set p (.lst (rgDD a b)))) : wLstR2O wa wb sd S Q := h
end
end L2.DL

namespace L2.DL
local macro_rules | `(tactic| and_intros) => `(tactic| repeat (first | with_reducible refine fldRow ?_ | with_reducible refine fldPairs ?_ | with_reducible refine fldMarks ?_ | with_reducible refine mthTie ?_ | with_reducible refine hasTie ?_ | with_reducible refine chkWeb ?_ | with_reducible refine isiTup ?_ | with_reducible refine isiTf ?_ | with_reducible refine isiStr ?_ | with_reducible refine v0 ?_ | with_reducible refine vS ?_ | with_reducible refine xC ?_ | with_reducible refine xCons ?_ | with_reducible refine xNil ?_ | with_reducible refine xO ?_ | with_reducible refine xCall ?_ | with_reducible refine xSeq ?_ | with_reducible refine xAsg ?_ | with_reducible refine g0 ?_ | with_reducible refine gSu ?_ | with_reducible refine xNext ?_ | with_reducible refine xRet ?_ | with_reducible refine xIfS ?_ | with_reducible refine xB ?_ | with_reducible refine isT ?_ | with_reducible refine isF ?_ | with_reducible refine isT' ?_ | with_reducible refine isF' ?_ | with_reducible refine iT ?_ | with_reducible refine iF ?_ | with_reducible refine iNT ?_ | with_reducible refine iNF ?_ | with_reducible refine xAnd ?_ | with_reducible refine xOr ?_ | with_reducible refine xNot ?_ | with_reducible refine xAndV ?_ | with_reducible refine xOrV ?_ | with_reducible refine xNotV ?_ | with_reducible refine xIf ?_ | with_reducible refine xCh ?_ | with_reducible refine xYes ?_ | with_reducible refine iAdd ?_ | with_reducible refine iSub ?_ | with_reducible refine iAnd ?_ | with_reducible refine iOr ?_ | with_reducible refine iLt ?_ | with_reducible refine iLe ?_ | with_reducible refine iGt ?_ | with_reducible refine iGe ?_ | with_reducible refine iEq ?_ | with_reducible refine iNe ?_ | with_reducible refine sEq ?_ | with_reducible refine sNe ?_ | with_reducible refine iNeg ?_ | with_reducible refine isN1 ?_ | with_reducible refine isN2 ?_ | with_reducible refine noN2 ?_ | with_reducible refine xLen ?_ | with_reducible refine lTupM ?_ | with_reducible refine lTfM ?_ | with_reducible refine lLstM ?_ | with_reducible refine lSrcM ?_ | with_reducible refine lTup ?_ | with_reducible refine lTf ?_ | with_reducible refine lLst ?_ | with_reducible refine lSrc ?_ | with_reducible refine lDic ?_ | with_reducible refine xAllM ?_ | with_reducible refine xAnyM ?_ | with_reducible refine xAll ?_ | with_reducible refine xFnC ?_ | with_reducible refine xFld ?_ | with_reducible refine xMth ?_ | with_reducible refine xSeqI ?_ | with_reducible refine sTup ?_ | with_reducible refine sTf ?_ | with_reducible refine sLst ?_ | with_reducible refine sSrc ?_ | with_reducible refine xEnum ?_ | with_reducible refine one1 ?_ | with_reducible refine xRng1 ?_ | with_reducible refine xRng2 ?_ | with_reducible refine int1' ?_ | with_reducible refine int2' ?_ | with_reducible refine xFor ?_ | with_reducible refine xTup ?_ | with_reducible refine xTupF ?_ | with_reducible refine xLst ?_ | with_reducible refine xNew ?_ | with_reducible refine xU ?_ | with_reducible refine xDrop ?_ | with_reducible refine xRetN ?_ | with_reducible refine xBreak ?_ | with_reducible refine xCont ?_ | with_reducible refine xStar ?_ | with_reducible refine gTup ?_ | with_reducible refine gCons ?_ | with_reducible refine gNil ?_ | with_reducible refine xSl ?_ | with_reducible refine pN ?_ | with_reducible refine pS ?_ | with_reducible refine isI1 ?_ | with_reducible refine slTup ?_ | with_reducible refine slSrc ?_ | with_reducible refine slLst ?_ | with_reducible refine xPar ?_ | with_reducible refine xPar3 ?_ | with_reducible refine two2' ?_ | with_reducible refine three' ?_ | with_reducible refine xBM ?_ | with_reducible refine bmLst ?_ | with_reducible refine bmSrc ?_ | with_reducible refine tfL ?_ | with_reducible refine tuL ?_ | with_reducible refine tuT ?_ | with_reducible refine xRevU ?_ | with_reducible refine revTup ?_ | with_reducible refine revTf ?_ | with_reducible refine xDicF ?_ | with_reducible refine xLcF ?_ | with_reducible refine xLcN ?_ | with_reducible refine xZip ?_ | with_reducible refine xCl ?_ | with_reducible refine andL (by with_unfolding_all exact lez rfl) ?_))
section
open PySem PySem.Spec PyProof.Rows
/-! ### k02: what a web shows -/
theorem join_len (z : Str) : ∀ ys : List Str, (Txt.join z ys).length ≤ (ys.map (·.length)).sum + ys.length * z.length := by
  intro ys
  show (Builtin.Str.glued _ _).length ≤ _
  rw [StrLaws.glued_eq_join]
  induction ys with
  | nil => exact Nat.zero_le _
  | cons x r ih =>
    cases r with
    | nil =>
      show x.length ≤ _
      simp
    | cons y r =>
      have e : (Str.join z (x :: y :: r)).length = x.length + z.length + (Str.join z (y :: r)).length := by
        show ((x.cps ++ z.cps) ++ (Str.join z (y :: r)).cps).size = _
        rw [Array.size_append, Array.size_append]
        rfl
      rw [e, List.map_cons, List.sum_cons, List.length_cons, Nat.succ_mul]
      omega
def wordsOf (ps : List Str) (ts : List (Str × Str)) : List (List Str) := ("places" :: ps) :: ts.map fun t => [t.1, t.2]
def linesOf (ps : List Str) (ts : List (Str × Str)) : List Str := (wordsOf ps ts).map (Txt.join " ")
def pageOf (ps : List Str) (ts : List (Str × Str)) : Str := Txt.join "\n" (linesOf ps ts)
theorem sum_le {α : Type} {f : α → Nat} {b : Nat} : ∀ {l : List α}, (∀ x ∈ l, f x ≤ b) → (l.map f).sum ≤ l.length * b
  | [], _ => Nat.zero_le _
  | x :: l, h => by
    rw [List.map_cons, List.sum_cons, List.length_cons, Nat.succ_mul]
    have h1 := h x (List.mem_cons_self ..)
    have h2 := sum_le (f := f) (b := b) (l := l) fun y hy => h y (List.mem_cons_of_mem _ hy)
    omega
theorem words_few {ps : List Str} {ts : List (Str × Str)} (ok : WebOk ps ts) : ∀ r ∈ wordsOf ps ts, r.length ≤ 41 ∧ ∀ x ∈ r, x.length ≤ 8 := by
  intro r hr
  have nm : ∀ x ∈ ps, x.length ≤ 8 := fun x hx => by have := (name_chars (ok.nm x hx)).2.1; omega
  have hp : ("places" : Str).length ≤ 8 := by decide
  rcases List.mem_cons.mp hr with rfl | hr
  · refine ⟨by have := ok.few; rw [List.length_cons]; omega, fun x hx => ?_⟩
    rcases List.mem_cons.mp hx with rfl | hx
    · exact hp
    · exact nm x hx
  · obtain ⟨t, ht, rfl⟩ := List.mem_map.mp hr
    obtain ⟨h1, h2, _⟩ := ok.tie t ht
    refine ⟨by simp, fun x hx => ?_⟩
    simp only [List.mem_cons, List.not_mem_nil, or_false] at hx
    rcases hx with rfl | rfl
    · exact nm _ h1
    · exact nm _ h2
theorem lines_few {ps : List Str} {ts : List (Str × Str)} (ok : WebOk ps ts) : (linesOf ps ts).length ≤ 201 ∧ ∀ x ∈ linesOf ps ts, x.length ≤ 369 := by
  refine ⟨by unfold linesOf wordsOf; rw [List.length_map, List.length_cons, List.length_map]; have := ok.tfew; omega, fun x hx => ?_⟩
  obtain ⟨r, hr, rfl⟩ := List.mem_map.mp hx
  obtain ⟨h1, h2⟩ := words_few ok r hr
  have h3 := join_len " " r
  have h4 := sum_le (f := fun x : Str => x.length) (b := 8) (l := r) h2
  have h5 : (" " : Str).length = 1 := by decide
  rw [h5] at h3
  omega
theorem join_okI {ps : List Str} {ts : List (Str × Str)} (ok : WebOk ps ts) : ((linesOf ps ts).map (·.length)).sum + (linesOf ps ts).length * ("\n" : Str).length ≤ 16777216 := by
  obtain ⟨h1, h2⟩ := lines_few ok
  have h4 := sum_le (f := fun x : Str => x.length) (b := 369) (l := linesOf ps ts) h2
  have h5 : ("\n" : Str).length = 1 := by decide
  rw [h5]
  omega
theorem word_ok {ps : List Str} {ts : List (Str × Str)} (ok : WebOk ps ts) {r : List Str} (hr : r ∈ wordsOf ps ts) : (r.map (·.length)).sum + r.length * (" " : Str).length ≤ 16777216 := by
  obtain ⟨h1, h2⟩ := words_few ok r hr
  have h4 := sum_le (f := fun x : Str => x.length) (b := 8) (l := r) h2
  have h5 : (" " : Str).length = 1 := by decide
  rw [h5]
  omega
def sp_Web_str (W : Addr) : DSp := fun ds S Q E => ∃ (ps : List Str) (ts : List (Str × Str)), ds = [webD W ps ts] ∧ WebOk ps ts ∧ Q (.str (pageOf ps ts)) S
def w_Web_str (W : Addr) : WS := (wRet (wJoin (wC (.str "\n")) (wLcP (wSeqI (wTup (wCons (wTup (wCons (wC (.str "places")) (wStar (wFld W "row" (wV 0)) wNil))) (wStar (wFld W "pairs" (wV 0)) wNil)))) (.n 1) wYes (wJoin (wC (.str " ")) (wV 1)) [1])))
theorem xJoin {ws wx : WE} {sd : SD} {S : SO} {Q : KD} (h : ws sd S fun a S1 => (∃ z, a = .str z) ∧ wx sd S1 fun d S2 => ∃ (z : Str) (ys : List Str), a = .str z ∧ seqX S2 d = some (ys.map D.str) ∧ (ys.map (·.length)).sum + ys.length * z.length ≤ 16777216 ∧ Q (.str (Txt.join z ys)) S2) : wJoin ws wx sd S Q := h
theorem pure_Web_str (W : Addr) : ∀ ds S Q E, sp_Web_str W ds S Q E → w_Web_str W (endsOf Q) (startD ["self", "words"] ds) S := by
  rintro ds S Q E ⟨ps, ts, rfl, ok, q⟩
  refine xFn ?_
  show w_Web_str W _ [some _, none] S
  unfold w_Web_str
  and_intros
  refine xJoin ?_
  and_intros
  refine ⟨⟨_, rfl⟩, ?_⟩
  refine lcM (wordsOf ps ts) (fun r => .tup (plD r)) (fun r => .str (Txt.join " " r)) ?_ (by have := (lines_few ok).1; unfold linesOf at this; rw [List.length_map] at this; omega) (fun r hr S' e => ?_) ?_
  · have hfew := ok.few
    have htf := ok.tfew
    and_intros
    refine ⟨_, rfl, ?_⟩
    and_intros
    refine ⟨by rw [List.length_cons, List.append_nil, List.length_map]; omega, ?_⟩
    refine xStar ?_
    and_intros
    refine ⟨_, rfl, ?_⟩
    and_intros
    refine ⟨by rw [List.length_cons, List.append_nil, List.length_map]; omega, ?_⟩
    refine srcX ?_
    unfold wordsOf
    rw [List.append_nil, List.append_nil, List.map_cons, List.map_map]
    rfl
  · (simp only [prD, putNT, wipeD, putAll, List.set_cons_zero, List.set_cons_succ, List.length_cons, List.length_nil, true_and]; and_intros)
    refine xJoin ?_
    and_intros
    refine ⟨⟨_, rfl⟩, ?_⟩
    and_intros
    exact ⟨" ", r, rfl, rfl, word_ok ok hr, rfl, rfl⟩
  · refine ⟨"\n", linesOf ps ts, rfl, ?_, join_okI ok, cl q⟩
    show some _ = some _
    unfold linesOf
    rw [List.map_map]
    rfl
end
section
open PySem PySem.Spec PyProof.Rows
/-! ### k02: the web of one place, its ties the default () -/
end
section
open PySem PySem.Spec PyProof.Rows
end
section
open PySem PySem.Spec PyProof.Rows
/-! ### met -/
end
section
open PySem PySem.Spec PyProof.Rows
/-! ### one road over all -/
/-- a list is [] or not -/
theorem neL0 {S : SO} {Q : KD} {d : D} {α : Type} {f : α → D} {g : α → PyData} {l : List α} (e : lstD S d = some (l.map f)) (hf : ∀ z ∈ l, pyD (f z) = some (g z)) (hs : SeqAt.shaped (.list (l.map g)) = true) (h : Q (.bl (!l.isEmpty)) S) : oNe d (.lst []) S Q := by
  refine eqD_lst e ⟨.list (l.map g), .list [], pyS_lst e (pyDs_map hf), rfl, hs, by decide +kernel, ?_⟩
  cases l with
  | nil => exact h
  | cons x xs => exact h
end
section
open PySem PySem.Spec PyProof.Rows
/-! ### law, as most laws of the family have it, for so many turns -/
/-! ### _law_is_road of good roads -/
instance : InjD (fun i : Nat => D.int ((i : Nat) + 1 : Int)) := ⟨fun _ _ h => by injection h with h; omega⟩
end
section
open PySem PySem.Spec PyProof.Rows
/-! ### roads of any kind of value -/
section
variable {S : SO} {Q : KD} {m : Nat} {d x : D} {xs : List D}
theorem isiTupA (h : Q (.bl (asTup d).isSome) S) (hd : Any m d) : cIsi (.ty "tuple") (fTy "tuple" []) [d, .ty "tuple"] S Q := by
  cases hd <;> exact ⟨rfl, _, _, rfl, rfl, h⟩
theorem isiStrA (h : Q (.bl (asStr d).isSome) S) (hd : Any m d) : cIsi (.ty "str") (fTy "str" []) [d, .ty "str"] S Q := by
  cases hd <;> exact ⟨rfl, _, _, rfl, rfl, h⟩
theorem asTup_seq (e : asTup d = some xs) (S : SO) : seqX S d = some xs := by
  cases d <;> first | exact e | cases e
theorem asTup_len {k : Nat → Prop} (e : asTup d = some xs) (h : k xs.length) : lenD S d k := len_seq (asTup_seq e S) h
theorem asTup_seqD {Rs : List D → (SO → Prop) → Prop} (e : asTup d = some xs) (h : Rs xs fun _ => True) : seqD d S Rs := by
  cases d <;> first | (cases e; exact h) | cases e
theorem asStr_of {s : Str} (e : asStr d = some s) : d = .str s := by
  cases d <;> first | (cases e; rfl) | cases e
theorem Any.items (h : Any m d) (e : asTup d = some xs) : xs.length ≤ m ∧ ∀ x ∈ xs, Any m x := by
  cases h with
  | tup ys hl hx => cases e; exact ⟨hl, hx⟩
  | tf ys hl hx => cases e; exact ⟨hl, hx⟩
  | _ => cases e
theorem Any.sok {s : Str} (h : Any m (.str s)) : sOk s := by
  cases h with
  | str x h => exact h.1
end
def inB (ps : List Str) (x : D) : Bool := match asStr x with
  | some s => decide (s ∈ ps)
  | none => false
theorem inB_all {ps : List Str} : ∀ {xs : List D}, xs.all (inB ps) = true → ∃ r, xs = plD r ∧ ∀ x ∈ r, x ∈ ps
  | [], _ => ⟨[], rfl, by simp⟩
  | x :: xs, h => by
    rw [List.all_cons, Bool.and_eq_true] at h
    obtain ⟨r, rfl, hr⟩ := inB_all h.2
    have h1 := h.1
    unfold inB at h1
    split at h1
    · rename_i s e
      refine ⟨s :: r, by rw [asStr_of e]; rfl, fun y hy => ?_⟩
      rcases List.mem_cons.mp hy with rfl | hy
      · exact of_decide_eq_true h1
      · exact hr y hy
    · cases h1
theorem all_inB {ps r : List Str} (h : ∀ x ∈ r, x ∈ ps) : (plD r).all (inB ps) = true := by
  rw [List.all_eq_true]
  intro d hd
  obtain ⟨x, hx, rfl⟩ := List.mem_map.mp hd
  exact decide_eq_true (h x hx)
theorem plD_inj {a b : List Str} (h : plD a = plD b) : a = b := map_inj (f := D.str) h
end
section
open PySem PySem.Spec PyProof.Rows
section
variable {P : Program} {w : World} {K : PySem.W.Frag} {mg : Str → Option Value} {base : Heap}
theorem fnD_false {k : Nat} {f : Addr} {fd : FuncData} (ps : List Str) : FnD P w K mg base k f fd ps (fun _ _ _ _ => False) :=
  ⟨fun vs H Q E ⟨_, _, _, _, _, _, h, _⟩ => h.elim, fun A outer s H args us vs Q E _ _ _ _ _ ⟨_, _, _, _, _, _, h, _⟩ => h.elim⟩
end
/-! ### _law_is_road of anything -/
/-! ### _law_bent -/
end
section
open PySem PySem.Spec PyProof.Rows
end
section
open PySem PySem.Spec PyProof.Rows
/-! ### sorted texts -/
/-! ### partings of any kind of value -/
/-! ### the law's own look -/
theorem lAdd {S : SO} {Q : KD} {x y : List D} (h : Q (.lst (x ++ y)) S) (hl : x.length + y.length ≤ 1000000) : oAdd (.lst x) (.lst y) S Q := ⟨hl, h⟩
end
section
open PySem PySem.Spec PyProof.Rows
end
section
open PySem PySem.Spec PyProof.Rows
/-! ### the third family of draws -/
def sp_cel_cup (W : Addr) : DSp := fun ds S Q E => ∃ (ns : List Int) (k : Nat), ds = [.src (ns.map D.int), .int (k : Nat)] ∧ ns.length ≤ 63 ∧ ∀ p a b, S p = none → Q (.obj p) (S.set p (pan3 a b 0))
def w_cel_cup (W : Addr) : WS := (wSeq (wAsg (wIf (wB (wO oLt (wV 1) (wCall cLen (wCons (wV 0) wNil)))) (wO oIx (wV 0) (wV 1)) (wO oAdd (wV 1) (wC (.int 2)))) (gV 2))
    (wSeq (wAsg (wO oAdd (wC (.int 110017)) (wO oMul (wC (.int 4001)) (wV 1))) (gV 3))
    (wSeq (wFor (wSeqI (wO oAdd (wSl (wV 0) pNone (pSome (wC (.int 4)))) (wLst (wCons (wV 2) wNil)))) (gV 4) (wAsg (wO oMod (wCall cInt (wCons (wO oAdd (wO oMul (wV 3) (wC (.int 26021))) (wV 4)) wNil)) (wC (.int 2147483477))) (gV 3)))
    (wRet (wNew (wCons (wIf (wOr (wB (wO oLt (wV 2) (wC (.int 0)))) (wB (wO oGe (wV 2) (wO oPow (wC (.int 10)) (wC (.int 18)))))) (wCall cAbs (wCons (wV 2) wNil)) (wC (.int 0))) (wCons (wV 3) (wCons (wC (.int 0)) wNil))))))))
theorem pure_cel_cup (W : Addr) : ∀ ds S Q E, sp_cel_cup W ds S Q E → w_cel_cup W (endsOf Q) (startD ["_law_cells", "_law_turn", "_law_cell", "_law_mixed", "_law_each"] ds) S := by
  rintro ds S Q E ⟨ns, k, rfl, hl, q⟩
  have hl' := len_ints hl
  have rest : ∀ cell : Int, wSeq (wAsg (wO oAdd (wC (.int 110017)) (wO oMul (wC (.int 4001)) (wV 1))) (gV 3))
    (wSeq (wFor (wSeqI (wO oAdd (wSl (wV 0) pNone (pSome (wC (.int 4)))) (wLst (wCons (wV 2) wNil)))) (gV 4) (wAsg (wO oMod (wCall cInt (wCons (wO oAdd (wO oMul (wV 3) (wC (.int 26021))) (wV 4)) wNil)) (wC (.int 2147483477))) (gV 3)))
    (wRet (wNew (wCons (wIf (wOr (wB (wO oLt (wV 2) (wC (.int 0)))) (wB (wO oGe (wV 2) (wO oPow (wC (.int 10)) (wC (.int 18)))))) (wCall cAbs (wCons (wV 2) wNil)) (wC (.int 0))) (wCons (wV 3) (wCons (wC (.int 0)) wNil)))))) (endsOf Q) [some (.src (ns.map D.int)), some (.int (k : Nat)), some (.int cell), none, none] S := by
    intro cell
    refine ⟨cmulL (by decide) (by decide), ?_⟩
    refine ⟨⟨lez rfl, ?_, ?_⟩⟩
    · have := cut_len (xs := ns.map D.int) (lo := none) (hi := some 4)
      show _ + 1 ≤ 1000000
      omega
    refine ⟨fun i sd S' => S' = S ∧ ∃ m c4, sd = [some (.src (ns.map D.int)), some (.int (k : Nat)), some (.int cell), some (.int m), c4], ⟨rfl, _, none, rfl⟩, fun _ _ _ _ => trivial, ?_, ?_⟩
    · rintro i d sd S' hi ⟨rfl, m, c4, rfl⟩
      have hm : d ∈ cutD (ns.map D.int) none (some 4) ++ [.int cell] := List.mem_of_getElem? hi
      obtain ⟨e, rfl⟩ : ∃ e, d = D.int e := by
        rcases List.mem_append.mp hm with h | h
        · obtain ⟨e, _, he⟩ := List.mem_map.mp (cut_sub d h)
          exact ⟨e, he.symm⟩
        · exact ⟨cell, by simpa using h⟩
      exact ⟨cmulR (by decide) (by decide), (by show (0 : Int) < 2147483477; decide), rfl, _, _, rfl⟩
    · rintro sd S' ⟨rfl, m, c4, rfl⟩
      have fin : ∀ a : Int, wRet (fun sd S Q => ∀ p, S p = none → Q (.obj p) (S.set p (pan3 a m 0))) (endsOf Q) [some (.src (ns.map D.int)), some (.int (k : Nat)), some (.int cell), some (.int m), c4] S' := fun a p hp => cl (q p a m hp)
      refine ⟨trivial, isC (fun h => ⟨lez rfl, fin _⟩) fun h => ?_⟩
      refine ⟨⟨by decide, by decide, by decide⟩, trivial, isC (fun h => ⟨lez rfl, fin _⟩) fun h => ⟨lez rfl, fin _⟩⟩
  refine ⟨Or.inl ⟨_, rfl, ⟨trivial, isC (fun h => ?_) fun h => rest _⟩⟩⟩
  have h' : (k : Int) < (ns.map D.int).length := of_decide_eq_true h
  rw [List.length_map] at h'
  have hk : k < ns.length := by omega
  exact Or.inl ⟨_, (k : Int), .int ns[k], rfl, rfl, atI_nat (by rw [List.getElem?_map, List.getElem?_eq_getElem hk]; rfl), rest _⟩
def sp_cel_sip (W : Addr) : DSp := fun ds S Q E => ∃ (p : Addr) (a b c : Int) (m : Int), ds = [.obj p, .int m] ∧ S p = some (pan3 a b c) ∧ 0 < m ∧ m < 1073741824 ∧ ∀ r a' b' c' : Int, 0 ≤ r → r < m → Q (.int r) (S.set p (pan3 a' b' c'))
def w_cel_sip (W : Addr) : WS := (wSeq (wAsg (wO oAdd (wO oIx (wV 0) (wC (.int 2))) (wC (.int 1))) (gSubD (wV 0) (wC (.int 2)) sSub))
    (wSeq (wIfS (wB (wO oGt (wO oIx (wV 0) (wC (.int 0))) (wC (.int 0)))) (wSeq (wAsg (wCall cDivmod (wCons (wO oIx (wV 0) (wC (.int 0))) (wCons (wV 1) wNil))) (gT 2 (gC (gSubD (wV 0) (wC (.int 0)) sSub) (gC (gV 2) gN))))
    (wRet (wV 2))) wNext)
    (wSeq (wAsg (wO oMod (wCall cInt (wCons (wO oAdd (wO oMul (wO oIx (wV 0) (wC (.int 1))) (wC (.int 48271))) (wO oMul (wC (.int 6089)) (wO oIx (wV 0) (wC (.int 2))))) wNil)) (wC (.int 2147483477))) (gSubD (wV 0) (wC (.int 1)) sSub))
    (wRet (wO oMod (wCall cInt (wCons (wO oDiv (wO oIx (wV 0) (wC (.int 1))) (wC (.int 1024))) wNil)) (wV 1))))))
theorem pure_cel_sip (W : Addr) : ∀ ds S Q E, sp_cel_sip W ds S Q E → w_cel_sip W (endsOf Q) (startD ["_law_cup_here", "_law_top", "_law_digit"] ds) S := by
  rintro ds S Q E ⟨p, a, b, c, m, rfl, hp, h0, h1, q⟩
  refine Or.inl ⟨_, 2, .int c, seqX_obj hp, rfl, rfl, p, rfl, Or.inl ⟨_, 2, 2, hp, rfl, rfl, ?_⟩⟩
  refine Or.inl ⟨_, 0, .int a, seqX_obj set_same, rfl, rfl, trivial, isC (fun h => ?_) fun h => ?_⟩
  · refine Or.inl ⟨_, 0, .int a, seqX_obj set_same, rfl, rfl, ⟨h0, h1⟩, rfl, p, rfl, Or.inl ⟨_, 0, 0, set_same, rfl, rfl, rfl, ?_⟩⟩
    rw [set_set]
    exact cl (q (a % m) (a / m) _ (c + 1) (Int.emod_nonneg _ (by omega)) (Int.emod_lt_of_pos _ h0))
  · refine Or.inl ⟨_, 1, .int b, seqX_obj set_same, rfl, rfl, cmulR (by decide) (by decide), ?_⟩
    refine Or.inl ⟨_, 2, .int (c + 1), seqX_obj set_same, rfl, rfl, ?_⟩
    refine ⟨cmulL (by decide) (by decide), by show (0 : Int) < 2147483477; decide, p, rfl, Or.inl ⟨_, 1, 1, set_same, rfl, rfl, ?_⟩⟩
    refine Or.inl ⟨_, 1, _, seqX_obj set_same, rfl, rfl, ⟨by decide, by decide⟩, h0, cl ?_⟩
    rw [set_set]
    exact q _ _ _ _ (Int.emod_nonneg _ (by omega)) (Int.emod_lt_of_pos _ h0)
theorem sipC {W : Addr} {S : SO} {Q : KD} {E : EK} {p : Addr} {a b c : Int} {m : Nat} (hp : S p = some (pan3 a b c)) (h0 : 0 < m) (h1 : m ≤ 1000000) (q : ∀ r : Nat, r < m → ∀ a' b' c' : Int, Q (.int (r : Nat)) (S.set p (pan3 a' b' c'))) : sp_cel_sip W [.obj p, .int (m : Nat)] S Q E :=
  ⟨p, a, b, c, _, rfl, hp, by omega, by omega, fun r a' b' c' h0 h1 => by
    have := q r.toNat (by omega) a' b' c'
    rwa [Int.toNat_of_nonneg h0] at this⟩
def w_cel_lawN (W : Addr) (right : DSp) (n : Int) : WS := (wRet (wCall cAll (wCons (wLcF (wRng1 (wCons (wCall cMax (wCons (wC (.int 2)) (wCons (wCall cMin (wCons (wCall cLen (wCons (wV 0) wNil)) (wCons (wC (.int n)) wNil))) wNil))) wNil)) (.n 1) wYes (wFn right [] (wCons (wFn (sp_cel_cup W) [] (wCons (wV 0) (wCons (wV 1) wNil))) wNil)) [1]) wNil)))
theorem pure_cel_lawN (W : Addr) {right : DSp} (n : Int) (hn : 2 ≤ n ∧ n ≤ 63) (hr : RightSp right) : ∀ ds S Q E, LawSp 63 ds S Q E → w_cel_lawN W right n (endsOf Q) (startD ["_law_cells", "_law_turn"] ds) S := by
  rintro ds S Q E ⟨ns, rfl, hl, rfl, q⟩
  have hl' : (ns.map D.int).length ≤ 63 := by rw [List.length_map]; exact hl
  refine ⟨⟨Or.inl ⟨_, rfl, Or.inl (Or.inl ⟨by omega, by omega, fun p hp => ⟨fun i S' => ∃ k, k ≤ i ∧ S' p = some (.lst (List.replicate k (.bl true))), ⟨0, Nat.le_refl _, set_same⟩, fun _ _ _ => trivial, ?_, ?_⟩⟩)⟩⟩⟩
  · rintro i d S' hi ⟨k, hk, g1⟩
    obtain ⟨rfl, hi2⟩ := rangeD_get hi
    refine upYes (ifY rfl (upI ⟨ns, i, ?_, hl, fun x a b hx => ?_⟩))
    · rw [Int.zero_add]
      rfl
    have hxp : p ≠ x := fun e => by rw [← e, g1] at hx; cases hx
    refine hr x a b 0 _ _ set_same fun a' b' c' => ⟨List.replicate k (.bl true), ?_, ?_, k + 1, by omega, ?_⟩
    · rw [set_ne hxp, set_ne hxp]
      exact g1
    · rw [List.length_replicate]
      omega
    · rw [set_same, List.replicate_succ']
  · rintro S2 ⟨k, hk, g1⟩
    refine ⟨_, g1, List.replicate k true, ?_, cl ?_⟩
    · show some _ = some _
      rw [List.map_replicate]
    · have e : (List.replicate k true).all id = true := by simp
      rw [e]
      exact q _
/-! steps -/
theorem xSubD {wo wi : WE} {w : WSet} {x : D} {sd : SD} {S : SO} {Qg : SD → SO → Prop} (h : wo sd S fun d S1 => wi sd S1 fun k S2 => w d k x S2 fun S3 => Qg sd S3) : gSubD wo wi w x sd S Qg := h
/-- a comprehension's source first -/
def itC (J : ItD) : WI := fun _ S R => R J S
theorem lcB {wi : WI} {nt : NT} {tt : WT} {we : WE} {vs : List Nat} {sd : SD} {S : SO} {Q : KD} (h : wi sd S fun J S1 => wLcP (itC J) nt tt we vs sd S1 Q) : wLcP wi nt tt we vs sd S Q :=
  ⟨_, h, fun J S1 ⟨_, r, k⟩ => k J S1 r⟩
def MkD (C : Addr) (sp : DSp) (xs : List D) (S : SO) (Q : KD) : Prop := ∀ p, S p = none → sp (.obj p :: xs) (S.set p (.ins C [])) (fun d S2 => d = .non ∧ ∃ fs, S2 p = some (.ins C fs) ∧ Q (.ins C fs) (S2.del p)) NoE
theorem xMakeF {C : Addr} {sp : DSp} {t : WA} {sd : SD} {S : SO} {Q : KD} (h : t sd S fun xs S1 => MkD C sp xs S1 Q) : wMakeF C sp [] t sd S Q := by
  have e : ∀ xs : List D, xs ++ [] = xs := List.append_nil
  unfold wMakeF
  simp only [e]
  exact h
theorem mkWeb {W : Addr} {ps : List Str} {ts : List (Str × Str)} {S : SO} {Q : KD} (ok : WebOk ps ts) (h : Q (webD W ps ts) S) : MkD W (sp_Web_init W) [.tf (plD ps), .tf (ts.map prD)] S Q := fun p hp => ⟨p, ps, ts, rfl, set_same, ok, rfl, fsD ps ts, set_same, by rw [set_set, del_set hp]; exact h⟩
section
variable {S : SO} {Q : KD} {i j : Int}
theorem xInt (h : Q (.int i) S) : cInt [.int i] S Q := h
theorem iModL (h : Q (.int (i % j)) S) (hj : 0 < j := by decide) : oMod (.int i) (.int j) S Q := ⟨hj, h⟩
theorem ixLet {k : Nat} (hk : k < 26) (h : Q (.str ⟨#[letterAt k]⟩) S) : oIx (.str LETTERS) (.int ((k : Nat) : Int)) S Q := Or.inr (Or.inl ⟨LETTERS, _, letterAt k, rfl, rfl, by decide +kernel, atI_nat (letterAt_get hk), h⟩)
theorem sAddN {u v : Str} (hl : u.length + v.length ≤ 1000000) (h : Q (.str (u ++ v)) S) : oAdd (.str u) (.str v) S Q := ⟨hl, h⟩
end
end
section
open PySem PySem.Spec PyProof.Rows
/-! ### k08 -/
end
section
open PySem PySem.Spec PyProof.Rows
/-! ### _law_put_together -/
end
section
open PySem PySem.Spec PyProof.Rows
/-! ### free places -/
/-! ### witnesses -/
instance : InjD (fun z : D × List Str => D.tup [z.1, .tup (plD z.2)]) := ⟨fun a b e => by
  injection e with e
  injection e with e1 e
  injection e with e2 e
  injection e2 with e2
  exact Prod.ext e1 (plD_inj e2)⟩
end
section
open PySem PySem.Spec PyProof.Rows
/-! ### ways of any kind of value -/
/-! ### the law's own look -/
end
section
open PySem PySem.Spec PyProof.Rows
/-! ### k37 -/
theorem shaped_strs {α : Type} (f : α → Str) {l : List α} (h : ∀ z ∈ l, sOk (f z)) : SeqAt.shaped (.list (l.map fun z => PyData.str (f z))) = true := shaped_list (n := 0) (by decide) h (fun y _ => by simp [PyData.depth])
theorem Any.mono {m m' : Nat} {d : D} (h : Any m d) (hm : m ≤ m') : Any m' d := by
  induction h with
  | non => exact .non
  | bl b => exact .bl b
  | int i => exact .int i
  | str x h => exact .str x ⟨h.1, Nat.le_trans h.2 hm⟩
  | tup xs hl h ih => exact .tup xs (Nat.le_trans hl hm) ih
  | tf xs hl h ih => exact .tf xs (Nat.le_trans hl hm) ih
  | lst xs hl h ih => exact .lst xs (Nat.le_trans hl hm) ih
  | dic t => exact .dic t
end
end L2.DL
namespace L2.DL
local macro_rules | `(tactic| and_intros) => `(tactic| repeat (first | with_reducible refine xInt ?_ | with_reducible refine iModL ?_ | with_reducible refine xMakeF ?_ | with_reducible refine xSubD ?_ | with_reducible refine fldRow ?_ | with_reducible refine fldPairs ?_ | with_reducible refine fldMarks ?_ | with_reducible refine mthTie ?_ | with_reducible refine hasTie ?_ | with_reducible refine chkWeb ?_ | with_reducible refine isiTup ?_ | with_reducible refine isiTf ?_ | with_reducible refine isiStr ?_ | with_reducible refine v0 ?_ | with_reducible refine vS ?_ | with_reducible refine xC ?_ | with_reducible refine xCons ?_ | with_reducible refine xNil ?_ | with_reducible refine xO ?_ | with_reducible refine xCall ?_ | with_reducible refine xSeq ?_ | with_reducible refine xAsg ?_ | with_reducible refine g0 ?_ | with_reducible refine gSu ?_ | with_reducible refine xNext ?_ | with_reducible refine xRet ?_ | with_reducible refine xIfS ?_ | with_reducible refine xB ?_ | with_reducible refine isT ?_ | with_reducible refine isF ?_ | with_reducible refine isT' ?_ | with_reducible refine isF' ?_ | with_reducible refine iT ?_ | with_reducible refine iF ?_ | with_reducible refine iNT ?_ | with_reducible refine iNF ?_ | with_reducible refine xAnd ?_ | with_reducible refine xOr ?_ | with_reducible refine xNot ?_ | with_reducible refine xAndV ?_ | with_reducible refine xOrV ?_ | with_reducible refine xNotV ?_ | with_reducible refine xIf ?_ | with_reducible refine xCh ?_ | with_reducible refine xYes ?_ | with_reducible refine iAdd ?_ | with_reducible refine iSub ?_ | with_reducible refine iAnd ?_ | with_reducible refine iOr ?_ | with_reducible refine iLt ?_ | with_reducible refine iLe ?_ | with_reducible refine iGt ?_ | with_reducible refine iGe ?_ | with_reducible refine iEq ?_ | with_reducible refine iNe ?_ | with_reducible refine sEq ?_ | with_reducible refine sNe ?_ | with_reducible refine iNeg ?_ | with_reducible refine isN1 ?_ | with_reducible refine isN2 ?_ | with_reducible refine noN2 ?_ | with_reducible refine xLen ?_ | with_reducible refine lTupM ?_ | with_reducible refine lTfM ?_ | with_reducible refine lLstM ?_ | with_reducible refine lSrcM ?_ | with_reducible refine lTup ?_ | with_reducible refine lTf ?_ | with_reducible refine lLst ?_ | with_reducible refine lSrc ?_ | with_reducible refine lDic ?_ | with_reducible refine xAllM ?_ | with_reducible refine xAnyM ?_ | with_reducible refine xAll ?_ | with_reducible refine xFnC ?_ | with_reducible refine xFld ?_ | with_reducible refine xMth ?_ | with_reducible refine xSeqI ?_ | with_reducible refine sTup ?_ | with_reducible refine sTf ?_ | with_reducible refine sLst ?_ | with_reducible refine sSrc ?_ | with_reducible refine xEnum ?_ | with_reducible refine one1 ?_ | with_reducible refine xRng1 ?_ | with_reducible refine xRng2 ?_ | with_reducible refine int1' ?_ | with_reducible refine int2' ?_ | with_reducible refine xFor ?_ | with_reducible refine xTup ?_ | with_reducible refine xTupF ?_ | with_reducible refine xLst ?_ | with_reducible refine xNew ?_ | with_reducible refine xU ?_ | with_reducible refine xDrop ?_ | with_reducible refine xRetN ?_ | with_reducible refine xBreak ?_ | with_reducible refine xCont ?_ | with_reducible refine xStar ?_ | with_reducible refine gTup ?_ | with_reducible refine gCons ?_ | with_reducible refine gNil ?_ | with_reducible refine xSl ?_ | with_reducible refine pN ?_ | with_reducible refine pS ?_ | with_reducible refine isI1 ?_ | with_reducible refine slTup ?_ | with_reducible refine slSrc ?_ | with_reducible refine slLst ?_ | with_reducible refine xPar ?_ | with_reducible refine xPar3 ?_ | with_reducible refine two2' ?_ | with_reducible refine three' ?_ | with_reducible refine xBM ?_ | with_reducible refine bmLst ?_ | with_reducible refine bmSrc ?_ | with_reducible refine tfL ?_ | with_reducible refine tuL ?_ | with_reducible refine tuT ?_ | with_reducible refine xRevU ?_ | with_reducible refine revTup ?_ | with_reducible refine revTf ?_ | with_reducible refine xDicF ?_ | with_reducible refine xLcF ?_ | with_reducible refine xLcN ?_ | with_reducible refine xZip ?_ | with_reducible refine xCl ?_ | with_reducible refine andL (by with_unfolding_all exact lez rfl) ?_))
section
open PySem PySem.Spec PyProof.Rows
/-! ### _law_labels -/
def LABS : List Str := ["places", "a", "show", "roads", "free", "undo", "zz", "names"]
theorem labs_ok : NamesOk LABS := ⟨by decide +kernel, by decide +kernel⟩
theorem names_sub {a b : List Str} (h : NamesOk b) (hs : a.Sublist b) : NamesOk a := ⟨fun t ht => h.1 t (hs.mem ht), h.2.sublist hs⟩
theorem names_rev {a : List Str} (h : NamesOk a) : NamesOk a.reverse := ⟨fun t ht => h.1 t (List.mem_reverse.mp ht), List.pairwise_reverse.mpr (h.2.imp fun x e => x e.symm)⟩
def STEMS : List Str := ["", "x", "abc"]
def labT (stem : Str) (k : Nat) : Str := stem ++ Txt.mul ⟨#[letterAt (k % 26)]⟩ (1 + (k : Int) / 26)
def labB (stem : Str) (m : Nat) : List Str := (List.range m).map (labT stem)
theorem labT_cps (stem : Str) {k : Nat} (hk : k < 52) : (labT stem k).cps.toList = stem.cps.toList ++ (if k < 26 then [letterAt (k % 26)] else [letterAt (k % 26), letterAt (k % 26)]) := by
  unfold labT
  by_cases h : k < 26
  · rw [if_pos h, show (1 + (k : Int) / 26) = 1 by omega]
    show (stem.cps ++ (Txt.mul ⟨#[letterAt (k % 26)]⟩ 1).cps).toList = _
    rw [Array.toList_append]
    rfl
  · rw [if_neg h, show (1 + (k : Int) / 26) = 2 by omega]
    show (stem.cps ++ (Txt.mul ⟨#[letterAt (k % 26)]⟩ 2).cps).toList = _
    rw [Array.toList_append]
    rfl
theorem labT_ok {stem : Str} (hs : stem ∈ STEMS) {k : Nat} (hk : k < 52) : nameOk (labT stem k) = true := by
  have hst : stem.cps.toList.length ≤ 3 ∧ ∀ c ∈ stem.cps.toList, c ∈ LETTERS.cps.toList := by
    have : ∀ s ∈ STEMS, s.cps.toList.length ≤ 3 ∧ ∀ c ∈ s.cps.toList, c ∈ LETTERS.cps.toList := by decide +kernel
    exact this _ hs
  have e := labT_cps stem hk
  have hlet : letterAt (k % 26) ∈ LETTERS.cps.toList := letterAt_mem (Nat.mod_lt _ (by decide))
  have hl := congrArg List.length e
  rw [Array.length_toList, List.length_append] at hl
  have h2 : 0 < (if k < 26 then [letterAt (k % 26)] else [letterAt (k % 26), letterAt (k % 26)]).length ∧ (if k < 26 then [letterAt (k % 26)] else [letterAt (k % 26), letterAt (k % 26)]).length ≤ 2 := by
    split <;> simp
  have hlen : (labT stem k).length = (labT stem k).cps.size := rfl
  unfold nameOk
  rw [e, Bool.and_eq_true, Bool.and_eq_true]
  refine ⟨decide_eq_true (by omega), decide_eq_true (by omega), List.all_eq_true.mpr fun c hc => decide_eq_true ?_⟩
  rcases List.mem_append.mp hc with hc | hc
  · exact hst.2 c hc
  · split at hc
    · rw [List.mem_singleton] at hc
      rw [hc]
      exact hlet
    · simp only [List.mem_cons, List.not_mem_nil, or_false, or_self] at hc
      rw [hc]
      exact hlet
theorem labB_ok {stem : Str} (hs : stem ∈ STEMS) {m : Nat} (hm : m ≤ 52) : NamesOk (labB stem m) := by
  refine ⟨fun t ht => ?_, map_nd fun i j hi hj e => ?_⟩
  · obtain ⟨k, hk, rfl⟩ := List.mem_map.mp ht
    exact labT_ok hs (by have := List.mem_range.mp hk; omega)
  · have e2 := congrArg (fun x : Str => x.cps.toList) e
    simp only [labT_cps stem (show i < 52 by omega), labT_cps stem (show j < 52 by omega)] at e2
    have e3 := List.append_cancel_left e2
    have L : ∀ {a b : Nat}, a < 26 → b < 26 → letterAt a = letterAt b → a = b := fun h1 h2 h => letterAt_inj h1 h2 h
    have hi' := Nat.mod_lt i (show 0 < 26 by decide)
    have hj' := Nat.mod_lt j (show 0 < 26 by decide)
    by_cases h1 : i < 26 <;> by_cases h2 : j < 26
    · rw [if_pos h1, if_pos h2] at e3
      have := L hi' hj' (List.cons.inj e3).1
      omega
    · rw [if_pos h1, if_neg h2] at e3
      exact absurd (congrArg List.length e3) (by simp)
    · rw [if_neg h1, if_pos h2] at e3
      exact absurd (congrArg List.length e3) (by simp)
    · rw [if_neg h1, if_neg h2] at e3
      have := L hi' hj' (List.cons.inj e3).1
      omega
theorem labB_len (stem : Str) (m : Nat) : (labB stem m).length = m := by
  unfold labB
  rw [List.length_map, List.length_range]
def sp_cel_labels (W : Addr) : DSp := fun ds S Q E => ∃ (p : Addr) (a b c : Int) (m : Nat), ds = [.obj p, .int (m : Nat)] ∧ S p = some (pan3 a b c) ∧ m ≤ 52 ∧ ∀ (ts : List Str) (a' b' c' : Int), ts.length = m → NamesOk ts → Q (.lst (plD ts)) (S.set p (pan3 a' b' c'))
def w_cel_labels (W : Addr) : WS := (wSeq (wAsg (wC (.str "abcdefghijklmnopqrstuvwxyz")) (gV 2))
    (wSeq (wIfS (wAnd (wB (wO oLt (wV 1) (wC (.int 9)))) (wB (wO oEq (wFn (sp_cel_sip W) [] (wCons (wV 0) (wCons (wC (.int 3)) wNil))) (wC (.int 0))))) (wRet (wSl (wLst (wCons (wC (.str "places")) (wCons (wC (.str "a")) (wCons (wC (.str "show")) (wCons (wC (.str "roads")) (wCons (wC (.str "free")) (wCons (wC (.str "undo")) (wCons (wC (.str "zz")) (wCons (wC (.str "names")) wNil))))))))) pNone (pSome (wV 1)))) wNext)
    (wSeq (wPar 3 4 (wCons (wO oIx (wLst (wCons (wC (.str "")) (wCons (wC (.str "x")) (wCons (wC (.str "abc")) wNil)))) (wFn (sp_cel_sip W) [] (wCons (wV 0) (wCons (wC (.int 3)) wNil)))) (wCons (wNew wNil) wNil)))
    (wSeq (wFor (wRng1 (wCons (wV 1) wNil)) (gV 5) (wDrop (wBM "list" mAppend (wV 4) (wCons (wO oAdd (wV 3) (wO oMul (wO oIx (wV 2) (wO oMod (wCall cInt (wCons (wV 5) wNil)) (wC (.int 26)))) (wO oAdd (wC (.int 1)) (wO oDiv (wV 5) (wC (.int 26)))))) wNil))))
    (wRet (wIf (wB (wO oEq (wFn (sp_cel_sip W) [] (wCons (wV 0) (wCons (wC (.int 2)) wNil))) (wC (.int 0)))) (wRevL (wV 4)) (wV 4)))))))
theorem pure_cel_labels (W : Addr) : ∀ ds S Q E, sp_cel_labels W ds S Q E → w_cel_labels W (endsOf Q) (startD ["_law_cup_here", "_law_many", "_law_signs", "_law_stem", "_law_found", "_law_k"] ds) S := by
  rintro ds S Q E ⟨p, a, b, c, m, rfl, hp, hm, q⟩
  refine xFn ?_
  show w_cel_labels W _ [some _, some _, none, none, none, none] S
  unfold w_cel_labels
  and_intros
  generalize hN : wSeq (wPar 3 4 _) _ = N
  have rest : ∀ (S1 : SO) a b c, S1 = S.set p (pan3 a b c) → N ⟨fun _ S' => Cl Q .non S', Cl Q, NoS, NoS⟩ [some (.obj p), some (.int (m : Nat)), some (.str LETTERS), none, none, none] S1 := by
    rintro S1 a b c rfl
    subst hN
    and_intros
    refine sipC (m := 3) set_same (by decide) (by decide) fun r hr a b c => ?_
    rw [set_set]
    obtain ⟨stem, hst⟩ : ∃ stem, STEMS[r]? = some stem := ⟨_, List.getElem?_eq_getElem (show r < STEMS.length from hr)⟩
    have hmem : stem ∈ STEMS := List.mem_of_getElem? hst
    refine ixLst (atM (l := STEMS) (f := D.str) hst) ?_
    and_intros
    intro f hf
    have hpf : p ≠ f := fun e => by rw [← e, set_same] at hf; cases hf
    have hSf : S f = none := by rw [set_ne hpf.symm] at hf; exact hf
    and_intros
    refine rng1N (by omega) ?_
    refine forR (fun x : Option D × List Str => [some (.obj p), some (.int (m : Nat)), some (.str LETTERS), some (.str stem), some (.obj f), x.1]) (fun x => (S.set p (pan3 a b c)).set f (.lst (plD x.2))) (fun i x => x.2 = labB stem i) (none, []) rfl ?_ ?_
    · rintro i ⟨x, l⟩ hi hl
      and_intros
      refine bmObj set_same ?_
      and_intros
      rw [show ((i : Nat) : Int) % 26 = ((i % 26 : Nat) : Int) by omega]
      refine ixLet (Nat.mod_lt _ (by decide)) ?_
      and_intros
      refine ⟨⟨by decide, by decide⟩, ?_⟩
      and_intros
      have hi52 : i < 52 := by omega
      have h9 : stem.length + (Txt.mul ⟨#[letterAt (i % 26)]⟩ (1 + (i : Int) / 26)).length ≤ 1000000 := by
        have h1 := (name_chars (labT_ok hmem hi52)).2.1
        have h2 : (labT stem i).length = stem.length + (Txt.mul ⟨#[letterAt (i % 26)]⟩ (1 + (i : Int) / 26)).length := Array.size_append ..
        omega
      refine ⟨by show 1 ≤ 1000; decide, by omega, by omega, sAddN h9 ?_⟩
      and_intros
      have hl : l = labB stem i := hl
      subst hl
      refine apM set_same (by show (labB stem i).length < _; rw [labB_len]; omega) ?_
      rw [set_set]
      refine .of (some (.int (i : Nat)), labB stem i ++ [labT stem i]) ?_ rfl rfl
      show labB stem i ++ [labT stem i] = labB stem (i + 1)
      unfold labB
      rw [List.range_succ, List.map_append]
      rfl
    · rintro ⟨x, l⟩ hl
      have hl : l = labB stem m := hl
      subst hl
      and_intros
      refine sipC (m := 2) (so_p hpf) (by decide) (by decide) fun r hr a b c => ?_
      rw [so_pp hpf]
      and_intros
      refine isD (fun h => ?_) fun h => ?_
      · and_intros
        refine xRevL ⟨_, lstX_obj set_same, ?_⟩
        rw [← List.map_reverse]
        refine ⟨_, _, Rf.dropS _ (by rw [set_ne hpf.symm]; exact hSf), ?_⟩
        exact q _ _ _ _ (by rw [List.length_reverse, labB_len]) (names_rev (labB_ok hmem hm))
      · and_intros
        exact ⟨_, _, Rf.lstS (by rw [set_ne hpf.symm]; exact hSf), q _ _ _ _ (labB_len ..) (labB_ok hmem hm)⟩
  refine isD (fun h => ?_) fun h => ?_
  · and_intros
    refine sipC (m := 3) hp (by decide) (by decide) fun r hr a b c => ?_
    and_intros
    refine isD (fun h => ?_) fun h => ?_
    · and_intros
      rw [cutHi]
      have hmn : m ≤ 8 := by omega
      show Cl Q (.lst ((LABS.map D.str).take m)) _
      rw [← List.map_take]
      refine cl (q (LABS.take m) _ _ _ ?_ (names_sub labs_ok (List.take_sublist _ _)))
      rw [List.length_take]
      show min m 8 = m
      omega
    · and_intros
      exact rest _ _ _ _ rfl
  · and_intros
    exact rest S a b c (set_self hp).symm
end
section
open PySem PySem.Spec PyProof.Rows
/-! ### _law_order -/
abbrev nsD (l : List Nat) : List D := l.map fun i : Nat => D.int (i : Nat)
def sp_cel_order (W : Addr) : DSp := fun ds S Q E => ∃ (p : Addr) (a b c : Int) (m : Nat), ds = [.obj p, .int (m : Nat)] ∧ S p = some (pan3 a b c) ∧ m ≤ 1000 ∧ ∀ (os : List Nat) (a' b' c' : Int), os.Perm (List.range m) → Q (.lst (nsD os)) (S.set p (pan3 a' b' c'))
def w_cel_order (W : Addr) : WS := (wSeq (wAsg (wNew wNil) (gV 2))
    (wSeq (wFor (wRng1 (wCons (wV 1) wNil)) (gV 3) (wDrop (wBM "list" mInsert (wV 2) (wCons (wFn (sp_cel_sip W) [] (wCons (wV 0) (wCons (wO oAdd (wV 3) (wC (.int 1))) wNil))) (wCons (wV 3) wNil)))))
    (wRet (wV 2))))
theorem pure_cel_order (W : Addr) : ∀ ds S Q E, sp_cel_order W ds S Q E → w_cel_order W (endsOf Q) (startD ["_law_cup_here", "_law_many", "_law_found", "_law_k"] ds) S := by
  rintro ds S Q E ⟨p, a, b, c, m, rfl, hp, hm, q⟩
  refine xFn ?_
  show w_cel_order W _ [some _, some _, none, none] S
  unfold w_cel_order
  and_intros
  intro f hf
  have hpf : p ≠ f := so_ne hp hf
  and_intros
  refine rng1N (by omega) ?_
  refine forR (fun x : Option D × (Int × Int × Int) × List Nat => [some (.obj p), some (.int (m : Nat)), some (.obj f), x.1]) (fun x => (S.set p (pan3 x.2.1.1 x.2.1.2.1 x.2.1.2.2)).set f (.lst (nsD x.2.2))) (fun i x => x.2.2.Perm (List.range i)) (none, (a, b, c), []) (List.Perm.refl _) ?_ ?_ rfl (by show _ = (S.set p (pan3 a b c)).set f _; rw [set_self hp]; rfl)
  · rintro i ⟨x, ⟨a, b, c⟩, l⟩ hi hl
    have hl : l.Perm (List.range i) := hl
    have hlen : l.length = i := by rw [hl.length_eq, List.length_range]
    and_intros
    refine bmObj set_same ?_
    and_intros
    refine sipC (m := i + 1) (so_p hpf) (by omega) (by omega) fun r hr a b c => ?_
    rw [so_pp hpf]
    and_intros
    refine two2' ⟨f, _, r, rfl, rfl, set_same, by show (nsD l).length < _; rw [List.length_map]; omega, by omega, ?_⟩
    rw [set_set]
    refine .of (some (.int (i : Nat)), (a, b, c), l.take r ++ [i] ++ l.drop r) ?_ rfl ?_
    · show (l.take r ++ [i] ++ l.drop r).Perm (List.range (i + 1))
      rw [List.range_succ]
      have e1 : (l.take r ++ [i] ++ l.drop r).Perm (i :: (l.take r ++ l.drop r)) := by
        rw [List.append_assoc]
        exact List.perm_middle
      rw [List.take_append_drop] at e1
      exact e1.trans ((List.perm_append_singleton i l).symm.trans (List.Perm.append_right [i] hl))
    · show _ = (S.set p (pan3 a b c)).set f (.lst (nsD (l.take r ++ [i] ++ l.drop r)))
      have e : nsD (l.take r ++ [i] ++ l.drop r) = (nsD l).take r ++ [.int (i : Nat)] ++ (nsD l).drop r := by
        unfold nsD
        rw [List.map_append, List.map_append, List.map_take, List.map_drop]
        rfl
      rw [e]
  · rintro ⟨x, ⟨a, b, c⟩, l⟩ hl
    and_intros
    exact ⟨_, _, Rf.lstS (by rw [set_ne hpf.symm]; exact hf), q _ _ _ _ hl⟩
/-! ### _law_links -/
def ipD (t : Nat × Nat) : D := .tup [.int (t.1 : Nat), .int (t.2 : Nat)]
theorem ipD_inj {a b : Nat × Nat} (h : ipD a = ipD b) : a = b := by
  unfold ipD at h
  injection h with h
  injection h with h1 h
  injection h with h2 h
  injection h1 with h1
  injection h2 with h2
  exact Prod.ext (by omega) (by omega)
instance : InjD ipD := ⟨fun _ _ h => ipD_inj h⟩
def keyW (way : Nat) (t : Nat × Nat) : Nat × Nat := if way = 3 then (min t.1 t.2, max t.1 t.2) else t
def Lt2 (k : Nat × Nat) (a b : Nat) : Prop := k.1 < a ∨ (k.1 = a ∧ k.2 < b)
structure LkI (m way a b : Nat) (l : List (Nat × Nat)) : Prop where
  ok : ∀ t ∈ l, t.1 < m ∧ t.2 < m ∧ t.1 ≠ t.2 ∧ (way = 1 → t.1 < t.2)
  lt : ∀ t ∈ l, Lt2 (keyW way t) a b
  nd : l.Nodup
  len : l.length ≤ a * m + b
  cov : way = 3 → ∀ i j, i < j → j < m → Lt2 (i, j) a b → (i, j) ∈ l ∨ (j, i) ∈ l
theorem lt2_next {i j a b : Nat} (h : Lt2 (i, j) a (b + 1)) : Lt2 (i, j) a b ∨ (i = a ∧ j = b) := by
  rcases h with h | ⟨h1, h2⟩
  · exact .inl (.inl h)
  · have h1 : i = a := h1
    have h2 : j < b + 1 := h2
    by_cases e : j = b
    · exact .inr ⟨h1, e⟩
    · exact .inl (.inr ⟨h1, by show j < b; omega⟩)
theorem LkI.next {m way a b : Nat} {l : List (Nat × Nat)} (h : LkI m way a b l) (hs : way = 3 → ¬ a < b) : LkI m way a (b + 1) l := ⟨h.ok, fun t ht => by
  rcases h.lt t ht with e | ⟨e1, e2⟩
  · exact .inl e
  · exact .inr ⟨e1, by omega⟩, h.nd, by have := h.len; omega, fun hw i j h1 h2 h3 => by
  rcases lt2_next h3 with e | ⟨e1, e2⟩
  · exact h.cov hw i j h1 h2 e
  · exact absurd (by omega) (hs hw)⟩
theorem LkI.row {m way a : Nat} {l : List (Nat × Nat)} (h : LkI m way a m l) : LkI m way (a + 1) 0 l := ⟨h.ok, fun t ht => by
  rcases h.lt t ht with e | ⟨e1, e2⟩
  · exact .inl (by omega)
  · exact .inl (by omega), h.nd, by have := h.len; rw [Nat.succ_mul]; omega, fun hw i j h1 h2 h3 => h.cov hw i j h1 h2 (by
  rcases h3 with e | ⟨_, e⟩
  · have e : i < a + 1 := e
    by_cases c : i = a
    · exact .inr ⟨c, h2⟩
    · exact .inl (by show i < a; omega)
  · exact absurd e (Nat.not_lt_zero _))⟩
theorem LkI.add {m way a b : Nat} {l : List (Nat × Nat)} (h : LkI m way a b l) {t : Nat × Nat} (hk : keyW way t = (a, b)) (h1 : t.1 < m) (h2 : t.2 < m) (h3 : t.1 ≠ t.2) (h4 : way = 1 → t.1 < t.2) : LkI m way a (b + 1) (l ++ [t]) := by
  refine ⟨fun u hu => ?_, fun u hu => ?_, ?_, ?_, fun hw i j k1 k2 k3 => ?_⟩
  · rcases List.mem_append.mp hu with hu | hu
    · exact h.ok u hu
    · rw [List.mem_singleton] at hu
      subst hu
      exact ⟨h1, h2, h3, h4⟩
  · rcases List.mem_append.mp hu with hu | hu
    · rcases h.lt u hu with e | ⟨e1, e2⟩
      · exact .inl e
      · exact .inr ⟨e1, by omega⟩
    · rw [List.mem_singleton] at hu
      subst hu
      rw [hk]
      exact .inr ⟨rfl, Nat.lt_succ_self _⟩
  · refine List.nodup_append.mpr ⟨h.nd, by simp, fun u hu v hv e => ?_⟩
    rw [List.mem_singleton] at hv
    subst hv
    subst e
    have := h.lt u hu
    rw [hk] at this
    rcases this with e | ⟨_, e⟩
    · exact absurd e (Nat.lt_irrefl _)
    · exact absurd e (Nat.lt_irrefl _)
  · have := h.len
    rw [List.length_append, List.length_singleton]
    omega
  · rcases lt2_next k3 with e | ⟨e1, e2⟩
    · exact (h.cov hw i j k1 k2 e).elim (fun g => .inl (List.mem_append_left _ g)) fun g => .inr (List.mem_append_left _ g)
    · subst e1 e2
      unfold keyW at hk
      rw [if_pos hw] at hk
      injection hk with g1 g2
      obtain ⟨x, y⟩ := t
      have g1 : min x y = i := g1
      have g2 : max x y = j := g2
      by_cases c : x ≤ y
      · rw [Nat.min_eq_left c] at g1
        rw [Nat.max_eq_right c] at g2
        subst g1 g2
        exact .inl (List.mem_append_right _ (List.mem_singleton.mpr rfl))
      · rw [Nat.min_eq_right (by omega)] at g1
        rw [Nat.max_eq_left (by omega)] at g2
        subst g1 g2
        exact .inr (List.mem_append_right _ (List.mem_singleton.mpr rfl))
theorem perm_erase {α : Type} : ∀ {u : List α} {k : Nat} {t : α}, u[k]? = some t → u.Perm (t :: u.eraseIdx k)
  | [], _, _, h => by cases h
  | x :: u, 0, t, h => by
    cases h
    exact List.Perm.refl _
  | x :: u, k + 1, t, h => (List.Perm.cons x (perm_erase (u := u) (k := k) h)).trans (List.Perm.swap t x _)
structure LinksI (m way : Nat) (l : List (Nat × Nat)) : Prop where
  ok : ∀ t ∈ l, t.1 < m ∧ t.2 < m ∧ t.1 ≠ t.2 ∧ (way = 1 → t.1 < t.2)
  nd : l.Nodup
  all : way = 3 → m ≤ 12 → ∀ i j, i < j → j < m → (i, j) ∈ l ∨ (j, i) ∈ l
def WAYS : List Nat := [4, 2, 2, 1, 6]
def sp_cel_links (W : Addr) : DSp := fun ds S Q E => ∃ (p : Addr) (a b c : Int) (m way : Nat), ds = [.obj p, .int (m : Nat), .int (way : Nat)] ∧ S p = some (pan3 a b c) ∧ m ≤ 60 ∧ way < 5 ∧ ∀ (ls : List (Nat × Nat)) (a' b' c' : Int), LinksI m way ls → ls.length ≤ 190 → Q (.lst (ls.map ipD)) (S.set p (pan3 a' b' c'))
def w_cel_links (W : Addr) : WS := (wSeq (wAsg (wNew wNil) (gV 3))
    (wSeq (wFor (wRng1 (wCons (wV 1) wNil)) (gV 4) (wFor (wRng1 (wCons (wV 1) wNil)) (gV 5) (wIfS (wAnd (wB (wO oNe (wV 4) (wV 5))) (wAnd (wOr (wB (wO oNe (wV 2) (wC (.int 1)))) (wB (wO oLt (wV 4) (wV 5)))) (wOr (wB (wO oNe (wV 2) (wC (.int 3)))) (wB (wO oLt (wV 4) (wV 5)))))) (wIfS (wB (wO oEq (wV 2) (wC (.int 3)))) (wDrop (wBM "list" mAppend (wV 3) (wCons (wIf (wB (wO oEq (wFn (sp_cel_sip W) [] (wCons (wV 0) (wCons (wC (.int 2)) wNil))) (wC (.int 0)))) (wTup (wCons (wV 4) (wCons (wV 5) wNil))) (wTup (wCons (wV 5) (wCons (wV 4) wNil)))) wNil))) (wIfS (wB (wO oEq (wFn (sp_cel_sip W) [] (wCons (wV 0) (wCons (wO oIx (wLst (wCons (wC (.int 4)) (wCons (wC (.int 2)) (wCons (wC (.int 2)) (wCons (wC (.int 1)) (wCons (wC (.int 6)) wNil)))))) (wV 2)) wNil))) (wC (.int 0)))) (wDrop (wBM "list" mAppend (wV 3) (wCons (wTup (wCons (wV 4) (wCons (wV 5) wNil))) wNil))) wNext)) wNext)))
    (wSeq (wPar 6 7 (wCons (wCall cListO (wCons (wV 3) wNil)) (wCons (wNew wNil) wNil)))
    (wSeq (wFor (wRng1 (wCons (wCall cLen (wCons (wV 3) wNil)) wNil)) (gV 8) (wDrop (wBM "list" mAppend (wV 7) (wCons (wBM "list" mPopAt (wV 6) (wCons (wFn (sp_cel_sip W) [] (wCons (wV 0) (wCons (wCall cLen (wCons (wV 6) wNil)) wNil))) wNil)) wNil))))
    (wRet (wSl (wV 7) pNone (pSome (wC (.int 190)))))))))
abbrev LkS := Option D × (Int × Int × Int) × List (Nat × Nat)
abbrev lkSt (p f : Addr) (m way i : Nat) : LkS → SD := fun x => [some (.obj p), some (.int (m : Nat)), some (.int (way : Nat)), some (.obj f), some (.int (i : Nat)), x.1, none, none, none]
abbrev lkSo (S : SO) (p f : Addr) : LkS → SO := fun x => (S.set p (pan3 x.2.1.1 x.2.1.2.1 x.2.1.2.2)).set f (.lst (x.2.2.map ipD))
theorem pure_cel_links (W : Addr) : ∀ ds S Q E, sp_cel_links W ds S Q E → w_cel_links W (endsOf Q) (startD ["_law_cup_here", "_law_many", "_law_way", "_law_found", "_law_a", "_law_b", "_law_rest", "_law_mixed", "_law_turn"] ds) S := by
  rintro ds S Q E ⟨p, a, b, c, m, way, rfl, hp, hm, hw, q⟩
  refine xFn ?_
  show w_cel_links W _ [some _, some _, some _, none, none, none, none, none, none] S
  unfold w_cel_links
  and_intros
  intro f hf
  have hpf : p ≠ f := so_ne hp hf
  generalize hN : wSeq (wPar 6 7 _) _ = N
  and_intros
  refine rng1N (by omega) ?_
  refine forR (fun x : (Option D × Option D) × (Int × Int × Int) × List (Nat × Nat) => [some (.obj p), some (.int (m : Nat)), some (.int (way : Nat)), some (.obj f), x.1.1, x.1.2, none, none, none]) (fun x => (S.set p (pan3 x.2.1.1 x.2.1.2.1 x.2.1.2.2)).set f (.lst (x.2.2.map ipD))) (fun i x => LkI m way i 0 x.2.2) ((none, none), (a, b, c), []) ⟨(fun t ht => by cases ht), (fun t ht => by cases ht), List.nodup_nil, Nat.zero_le _, fun _ i j _ _ h => by rcases h with e | ⟨_, e⟩ <;> exact absurd e (Nat.not_lt_zero _)⟩ ?_ ?_ rfl (by show _ = (S.set p (pan3 a b c)).set f _; rw [set_self hp]; rfl)
  · rintro i ⟨⟨x, y⟩, ⟨a, b, c⟩, l⟩ hi hl
    and_intros
    refine rng1N (by omega) ?_
    refine forR (lkSt p f m way i) (lkSo S p f) (fun j x => LkI m way i j x.2.2) (y, (a, b, c), l) hl ?_ ?_
    · rintro j ⟨y, ⟨a, b, c⟩, l⟩ hj hl
      have hl : LkI m way i j l := hl
      generalize hM : wIfS (wB (wO oEq (wV 2) (wC (.int 3)))) _ _ = M
      have skip : (way = 3 → ¬ i < j) → Turn (lkSt p f m way i) (lkSo S p f) (fun j x => LkI m way i j x.2.2) (j + 1) (lkSt p f m way i (some (.int (j : Nat)), (a, b, c), l)) (lkSo S p f (some (.int (j : Nat)), (a, b, c), l)) := fun hs => .of _ (hl.next hs)
      have body : ∀ bk, i ≠ j → (way = 1 → i < j) → (way = 3 → i < j) → M ⟨Turn (lkSt p f m way i) (lkSo S p f) (fun j x => LkI m way i j x.2.2) (j + 1), Cl Q, bk, Turn (lkSt p f m way i) (lkSo S p f) (fun j x => LkI m way i j x.2.2) (j + 1)⟩ (lkSt p f m way i (some (.int (j : Nat)), (a, b, c), l)) (lkSo S p f (some (.int (j : Nat)), (a, b, c), l)) := by
        intro bk hij h1 h3
        have hlen : l.length < 1000000 := by
          have h := hl.len
          have : i * m ≤ 60 * 60 := Nat.mul_le_mul (by omega) hm
          omega
        subst hM
        and_intros
        refine isD (fun h => ?_) fun h => ?_
        · have hw3 : way = 3 := by omega
          have hlt := h3 hw3
          and_intros
          refine bmObj set_same ?_
          and_intros
          refine sipC (m := 2) (so_p hpf) (by decide) (by decide) fun r hr a b c => ?_
          rw [so_pp hpf]
          and_intros
          refine isD (fun h => ?_) fun h => ?_
          · and_intros
            refine apM (f := ipD) (z := (i, j)) set_same hlen ?_
            rw [set_set]
            refine .of (some (.int (j : Nat)), (a, b, c), l ++ [(i, j)]) (hl.add ?_ hi hj hij h1)
            unfold keyW
            rw [if_pos hw3, Nat.min_eq_left (Nat.le_of_lt hlt), Nat.max_eq_right (Nat.le_of_lt hlt)]
          · and_intros
            refine apM (f := ipD) (z := (j, i)) set_same hlen ?_
            rw [set_set]
            refine .of (some (.int (j : Nat)), (a, b, c), l ++ [(j, i)]) (hl.add ?_ hj hi (Ne.symm hij) fun e => by omega)
            unfold keyW
            rw [if_pos hw3, Nat.min_eq_right (Nat.le_of_lt hlt), Nat.max_eq_left (Nat.le_of_lt hlt)]
        · have hw3 : way ≠ 3 := by omega
          and_intros
          obtain ⟨n, hn⟩ : ∃ n, WAYS[way]? = some n := ⟨_, List.getElem?_eq_getElem (show way < WAYS.length from hw)⟩
          have hn1 : 0 < n ∧ n ≤ 1000 := by
            have : ∀ n ∈ WAYS, 0 < n ∧ n ≤ 1000 := by decide
            exact this n (List.mem_of_getElem? hn)
          refine ixLst (atM (l := WAYS) (f := fun i : Nat => D.int (i : Nat)) hn) ?_
          and_intros
          refine sipC (m := n) (so_p hpf) hn1.1 (by omega) fun r hr a b c => ?_
          rw [so_pp hpf]
          and_intros
          refine isD (fun h => ?_) fun h => ?_
          · and_intros
            refine bmObj set_same ?_
            and_intros
            refine apM (f := ipD) (z := (i, j)) set_same hlen ?_
            rw [set_set]
            refine .of (some (.int (j : Nat)), (a, b, c), l ++ [(i, j)]) (hl.add ?_ hi hj hij h1)
            unfold keyW
            rw [if_neg hw3]
          · and_intros
            exact .of (some (.int (j : Nat)), (a, b, c), l) (hl.next fun e => absurd e hw3)
      and_intros
      refine isND (fun h => ?_) fun h => ?_
      · and_intros
        exact skip fun _ => by omega
      have hij : i ≠ j := fun e => h (by rw [e])
      and_intros
      refine isND (fun h1 => ?_) fun h1 => ?_
      · and_intros
        refine isD (fun hlt => ?_) fun hlt => ?_
        · and_intros
          refine isND (fun h3 => ?_) fun h3 => ?_
          · exact absurd h3 (by omega)
          · and_intros
            exact body _ hij (fun _ => by omega) (fun _ => by omega)
        · and_intros
          exact skip fun e => by omega
      · and_intros
        refine isND (fun h3 => ?_) fun h3 => ?_
        · and_intros
          refine isD (fun hlt => ?_) fun hlt => ?_
          · and_intros
            exact body _ hij (fun _ => by omega) (fun _ => by omega)
          · and_intros
            exact skip fun _ => by omega
        · and_intros
          exact body _ hij (fun e => absurd (by rw [e]; rfl) h1) (fun e => absurd (by rw [e]; rfl) h3)
    · rintro ⟨y, ⟨a, b, c⟩, l⟩ hl
      exact .of ((some (.int (i : Nat)), y), (a, b, c), l) hl.row
  · rintro ⟨⟨x, y⟩, ⟨a, b, c⟩, l⟩ hl
    have hl : LkI m way m 0 l := hl
    subst hN
    have hlen : l.length < 1000000 := by
      have h := hl.len
      have : m * m ≤ 60 * 60 := Nat.mul_le_mul hm hm
      omega
    and_intros
    show cListO [D.obj f] ((S.set p (pan3 a b c)).set f (.lst (l.map ipD))) _
    refine ⟨_, seqX_obj set_same, fun r hr => ?_⟩
    have hrp : p ≠ r := fun e => by rw [← e, so_p hpf] at hr; cases hr
    have hrf : f ≠ r := fun e => by rw [← e, set_same] at hr; cases hr
    have hSr : S r = none := by rw [set_ne hrf.symm, set_ne hrp.symm] at hr; exact hr
    and_intros
    intro z hz
    have hzp : p ≠ z := fun e => by rw [← e, set_ne hrp, so_p hpf] at hz; cases hz
    have hzf : f ≠ z := fun e => by rw [← e, set_ne hrf, set_same] at hz; cases hz
    have hzr : r ≠ z := fun e => by rw [← e, set_same] at hz; cases hz
    have hSz : S z = none := by rw [set_ne hzr.symm, set_ne hzf.symm, set_ne hzp.symm] at hz; exact hz
    and_intros
    refine lObjM (f := ipD) (l := l) (by rw [set_ne hzf, set_ne hrf, set_same]) ?_
    and_intros
    refine rng1N (by omega) ?_
    refine forR (fun w : Option D × (Int × Int × Int) × List (Nat × Nat) × List (Nat × Nat) => [some (.obj p), some (.int (m : Nat)), some (.int (way : Nat)), some (.obj f), x, y, some (.obj r), some (.obj z), w.1]) (fun w => (((S.set p (pan3 w.2.1.1 w.2.1.2.1 w.2.1.2.2)).set f (.lst (l.map ipD))).set r (.lst (w.2.2.1.map ipD))).set z (.lst (w.2.2.2.map ipD))) (fun i w => (w.2.2.1 ++ w.2.2.2).Perm l ∧ w.2.2.2.length = i) (none, (a, b, c), l, []) ⟨by rw [List.append_nil], rfl⟩ ?_ ?_
    · rintro i ⟨x, ⟨a, b, c⟩, u, v⟩ hi ⟨hP, hv⟩
      have hP : (u ++ v).Perm l := hP
      have hv : v.length = i := hv
      have hL := hP.length_eq
      rw [List.length_append] at hL
      and_intros
      refine bmObj set_same ?_
      and_intros
      refine bmObj (by rw [set_ne hzr, set_same]) ?_
      and_intros
      refine lObjM (f := ipD) (l := u) (by rw [set_ne hzr, set_same]) ?_
      and_intros
      refine sipC (m := u.length) (by rw [set_ne hzp, set_ne hrp, so_p hpf]) (by omega) (by omega) fun k hk a b c => ?_
      obtain ⟨t, ht⟩ : ∃ t, u[k]? = some t := ⟨_, List.getElem?_eq_getElem hk⟩
      rw [so_pf hzp, so_pf hrp, so_pp hpf]
      and_intros
      refine popAtM (f := ipD) (l := u) (by rw [set_ne hzr, set_same]) ht (by omega) ?_
      rw [so_pp hzr]
      and_intros
      refine apM (f := ipD) (l := v) set_same (by omega) ?_
      rw [set_set]
      refine .of (some (.int (i : Nat)), (a, b, c), u.eraseIdx k, v ++ [t]) ⟨?_, by show (v ++ [t]).length = i + 1; rw [List.length_append, hv]; rfl⟩
      show (u.eraseIdx k ++ (v ++ [t])).Perm l
      refine List.Perm.trans ?_ hP
      have e1 : u.Perm (t :: u.eraseIdx k) := perm_erase ht
      refine List.Perm.trans ?_ (List.Perm.append_right v e1).symm
      rw [← List.append_assoc]
      exact List.perm_append_singleton t _
    · rintro ⟨x, ⟨a, b, c⟩, u, v⟩ ⟨hP, hv⟩
      have hP : (u ++ v).Perm l := hP
      have hv : v.length = l.length := hv
      have hL := hP.length_eq
      rw [List.length_append] at hL
      have hu : u = [] := List.length_eq_zero_iff.mp (by omega)
      subst hu
      have hP : v.Perm l := hP
      and_intros
      refine slObj (xs := v.map ipD) set_same ?_
      rw [show (190 : Int) = ((190 : Nat) : Int) from rfl, cutHi, ← List.map_take]
      have sub : (v.take 190).Sublist v := List.take_sublist _ _
      have hok : ∀ t ∈ v.take 190, t.1 < m ∧ t.2 < m ∧ t.1 ≠ t.2 ∧ (way = 1 → t.1 < t.2) := fun t ht => hl.ok t (hP.mem_iff.mp (sub.mem ht))
      refine ⟨.lst ((v.take 190).map ipD), S.set p (pan3 a b c), ?_, q _ _ _ _ ⟨hok, (hP.nodup_iff.mpr hl.nd).sublist sub, fun hw3 h12 i j h1 h2 => by
        have hl2 := hl.len
        have hmm : m * m ≤ 12 * 12 := Nat.mul_le_mul h12 h12
        rw [List.take_of_length_le (by omega), hP.mem_iff, hP.mem_iff]
        exact hl.cov hw3 i j h1 h2 (.inl (by show i < m; omega))⟩ (by rw [List.length_take]; omega)⟩
      refine (Rf.dropS _ ?_).trans ((Rf.dropS _ ?_).trans (Rf.dropS _ ?_))
      · rw [set_ne hzr.symm, set_ne hzf.symm, set_ne hzp.symm]
        exact hSz
      · rw [set_ne hrf.symm, set_ne hrp.symm]
        exact hSr
      · rw [set_ne hpf.symm]
        exact hf
end
section
open PySem PySem.Spec PyProof.Rows
/-! ### _law_web, _law_scene -/
theorem nodup_map_on {α β : Type} {f : α → β} : ∀ {l : List α}, (∀ x ∈ l, ∀ y ∈ l, f x = f y → x = y) → l.Nodup → (l.map f).Nodup
  | [], _, _ => List.nodup_nil
  | x :: l, h, n => by
    have n2 := List.nodup_cons.mp n
    refine List.nodup_cons.mpr ⟨fun hm => ?_, nodup_map_on (fun a ha b hb => h a (List.mem_cons_of_mem _ ha) b (List.mem_cons_of_mem _ hb)) n2.2⟩
    obtain ⟨y, hy, e⟩ := List.mem_map.mp hm
    exact n2.1 (h y (List.mem_cons_of_mem _ hy) x (List.mem_cons_self ..) e ▸ hy)
def nmT (ts : List Str) (t : Nat × Nat) : Str × Str := (ts.getD t.1 Str.empty, ts.getD t.2 Str.empty)
abbrev nmL (ts : List Str) (ls : List (Nat × Nat)) : List (Str × Str) := ls.map (nmT ts)
theorem getD_get {ts : List Str} {i : Nat} (h : i < ts.length) : ts[i]? = some (ts.getD i Str.empty) := by
  rw [List.getD_eq_getElem?_getD, List.getElem?_eq_getElem h]
  rfl
theorem getD_inj {ts : List Str} (nd : ts.Nodup) {i j : Nat} (hi : i < ts.length) (hj : j < ts.length) (h : ts.getD i Str.empty = ts.getD j Str.empty) : i = j := nodup_ix nd (getD_get hi) (h ▸ getD_get hj)
/-- names and ties by numbers -/
structure NetI (ts : List Str) (ls : List (Nat × Nat)) : Prop where
  nm : NamesOk ts
  pos : 0 < ts.length
  few : ts.length ≤ 40
  ok : ∀ t ∈ ls, t.1 < ts.length ∧ t.2 < ts.length ∧ t.1 ≠ t.2
  nd : ls.Nodup
  lfew : ls.length ≤ 200
theorem NetI.web {ts : List Str} {ls : List (Nat × Nat)} (h : NetI ts ls) : WebOk ts (nmL ts ls) := by
  refine ⟨h.pos, h.few, h.nm.1, h.nm.2, by rw [List.length_map]; exact h.lfew, fun t ht => ?_, ?_⟩
  · obtain ⟨u, hu, rfl⟩ := List.mem_map.mp ht
    obtain ⟨h1, h2, h3⟩ := h.ok u hu
    exact ⟨List.mem_of_getElem? (getD_get h1), List.mem_of_getElem? (getD_get h2), fun e => h3 (getD_inj h.nm.2 h1 h2 e)⟩
  · have key : ∀ l : List (Nat × Nat), (∀ t ∈ l, t ∈ ls) → l.Nodup → (nmL ts l).Nodup := fun l => by
      induction l with
      | nil => intros; exact List.nodup_nil
      | cons t l ih =>
        intro hs hn
        have hn2 := List.nodup_cons.mp hn
        refine List.nodup_cons.mpr ⟨fun hm => ?_, ih (fun u hu => hs u (List.mem_cons_of_mem _ hu)) hn2.2⟩
        obtain ⟨u, hu, e⟩ := List.mem_map.mp hm
        obtain ⟨a1, a2, _⟩ := h.ok t (hs t (List.mem_cons_self ..))
        obtain ⟨b1, b2, _⟩ := h.ok u (hs u (List.mem_cons_of_mem _ hu))
        unfold nmT at e
        injection e with e1 e2
        have : u = t := Prod.ext (getD_inj h.nm.2 b1 a1 e1) (getD_inj h.nm.2 b2 a2 e2)
        exact hn2.1 (this ▸ hu)
    exact key ls (fun _ h => h) h.nd
def sp_cel_web (W : Addr) : DSp := fun ds S Q E => ∃ (ts : List Str) (ls : List (Nat × Nat)), ds = [.lst (plD ts), .lst (ls.map ipD)] ∧ NetI ts ls ∧ Q (webD W ts (nmL ts ls)) S
def w_cel_web (W : Addr) : WS := (wRet (wMakeF W (sp_Web_init W) [] (wCons (wCall cTupleF (wCons (wV 0) wNil)) (wCons (wCall cTupleF (wCons (wLcP (wSeqI (wV 1)) (.t [2, 3]) wYes (wTup (wCons (wO oIx (wV 0) (wV 2)) (wCons (wO oIx (wV 0) (wV 3)) wNil))) [2, 3]) wNil)) wNil))))
theorem pure_cel_web (W : Addr) : ∀ ds S Q E, sp_cel_web W ds S Q E → w_cel_web W (endsOf Q) (startD ["_law_labels_here", "_law_links_here", "_law_a", "_law_b"] ds) S := by
  rintro ds S Q E ⟨ts, ls, rfl, ok, q⟩
  refine xFn ?_
  show w_cel_web W _ [some _, some _, none, none] S
  unfold w_cel_web
  and_intros
  refine lcM ls ipD (fun t => prD (nmT ts t)) srcT (by have := ok.lfew; omega) (fun t ht S' e => ?_) ?_
  · obtain ⟨h1, h2, _⟩ := ok.ok t ht
    unfold ipD
    (simp only [prD, putNT, wipeD, putAll, List.set_cons_zero, List.set_cons_succ, List.length_cons, List.length_nil, true_and]; and_intros)
    refine ixLst (atM (l := ts) (f := D.str) (getD_get h1)) ?_
    and_intros
    refine ixLst (atM (l := ts) (f := D.str) (getD_get h2)) ?_
    and_intros
    exact ⟨rfl, rfl⟩
  · rw [show ls.map (fun t => prD (nmT ts t)) = (nmL ts ls).map prD by rw [List.map_map]; rfl]
    and_intros
    exact mkWeb ok.web (cl q)
def sp_cel_scene (W : Addr) : DSp := fun ds S Q E => ∃ (p : Addr) (a b c : Int) (most : Nat) (ways : List Nat), ds = [.obj p, .int (most : Nat), .lst (nsD ways)] ∧ S p = some (pan3 a b c) ∧ 0 < most ∧ most ≤ 40 ∧ ways ≠ [] ∧ ways.length ≤ 1000 ∧ (∀ w ∈ ways, w < 5) ∧
  ∀ (ts : List Str) (ls : List (Nat × Nat)) (a' b' c' : Int), NetI ts ls → ts.length ≤ most → ls.length ≤ 190 → Q (.lst [.int (ts.length : Nat), .lst (ls.map ipD), .lst (plD ts), webD W ts (nmL ts ls)]) (S.set p (pan3 a' b' c'))
def w_cel_scene (W : Addr) : WS := (wSeq (wAsg (wO oAdd (wC (.int 1)) (wFn (sp_cel_sip W) [] (wCons (wV 0) (wCons (wV 1) wNil)))) (gV 3))
    (wSeq (wAsg (wFn (sp_cel_order W) [] (wCons (wV 0) (wCons (wV 3) wNil))) (gV 4))
    (wSeq (wAsg (wLcP (wSeqI (wFn (sp_cel_links W) [] (wCons (wV 0) (wCons (wV 3) (wCons (wO oIx (wV 2) (wFn (sp_cel_sip W) [] (wCons (wV 0) (wCons (wCall cLen (wCons (wV 2) wNil)) wNil)))) wNil))))) (.t [7, 8]) wYes (wTup (wCons (wO oIx (wV 4) (wV 7)) (wCons (wO oIx (wV 4) (wV 8)) wNil))) [7, 8]) (gV 5))
    (wSeq (wAsg (wFn (sp_cel_labels W) [] (wCons (wV 0) (wCons (wV 3) wNil))) (gV 6))
    (wRet (wLst (wCons (wV 3) (wCons (wV 5) (wCons (wV 6) (wCons (wFn (sp_cel_web W) [] (wCons (wV 6) (wCons (wV 5) wNil))) wNil))))))))))
theorem pure_cel_scene (W : Addr) : ∀ ds S Q E, sp_cel_scene W ds S Q E → w_cel_scene W (endsOf Q) (startD ["_law_cup_here", "_law_most", "_law_ways", "_law_many", "_law_order_here", "_law_links_here", "_law_labels_here", "_law_a", "_law_b"] ds) S := by
  rintro ds S Q E ⟨p, a, b, c, most, ways, rfl, hp, h0, h1, hw, hwl, hwo, q⟩
  refine xFn ?_
  show w_cel_scene W _ [some _, some _, some _, none, none, none, none, none, none] S
  unfold w_cel_scene
  and_intros
  refine sipC (m := most) hp h0 (by omega) fun r hr a b c => ?_
  and_intros
  rw [show (1 + (r : Int)) = ((1 + r : Nat) : Int) by omega]
  refine ⟨p, a, b, c, 1 + r, rfl, set_same, by omega, fun os a b c hos => ?_⟩
  rw [set_set]
  have hol : os.length = 1 + r := by rw [hos.length_eq, List.length_range]
  and_intros
  refine lcB ?_
  and_intros
  have hwp := List.length_pos_iff.mpr hw
  refine sipC (m := ways.length) set_same hwp (by omega) fun k hk a b c => ?_
  rw [set_set]
  have hway := List.getElem?_eq_getElem hk
  refine ixLst (atM (l := ways) (f := fun i : Nat => D.int (i : Nat)) hway) ?_
  and_intros
  refine ⟨p, a, b, c, 1 + r, ways[k], rfl, set_same, by omega, hwo _ (List.getElem_mem hk), fun ls a b c hls hl9 => ?_⟩
  rw [set_set]
  and_intros
  have onm : ∀ i, i < 1 + r → ∃ o, os[i]? = some o ∧ o < 1 + r := fun i hi => by
    have h := List.getElem?_eq_getElem (show i < os.length by omega)
    exact ⟨_, h, List.mem_range.mp (hos.mem_iff.mp (List.getElem_mem _))⟩
  refine lcM ls ipD (fun t => ipD (os.getD t.1 0, os.getD t.2 0)) srcT (by omega) (fun t ht S' e => ?_) ?_
  · obtain ⟨g1, g2, _⟩ := hls.ok t ht
    obtain ⟨o1, e1, _⟩ := onm _ g1
    obtain ⟨o2, e2, _⟩ := onm _ g2
    unfold ipD
    (simp only [prD, putNT, wipeD, putAll, List.set_cons_zero, List.set_cons_succ, List.length_cons, List.length_nil, true_and]; and_intros)
    refine ixLst (atM (l := os) (f := fun i : Nat => D.int (i : Nat)) e1) ?_
    and_intros
    refine ixLst (atM (l := os) (f := fun i : Nat => D.int (i : Nat)) e2) ?_
    and_intros
    refine ⟨rfl, ?_⟩
    rw [List.getD_eq_getElem?_getD, List.getD_eq_getElem?_getD, e1, e2]
    rfl
  and_intros
  refine ⟨p, a, b, c, 1 + r, rfl, set_same, by omega, fun ts a b c htl hts => ?_⟩
  rw [set_set]
  and_intros
  obtain ⟨ls', hls'⟩ : ∃ ls', ls' = ls.map fun t => (os.getD t.1 0, os.getD t.2 0) := ⟨_, rfl⟩
  have N : NetI ts ls' := by
    have ond : os.Nodup := hos.nodup_iff.mpr List.nodup_range
    have oin : ∀ {i j}, i < 1 + r → j < 1 + r → os.getD i 0 = os.getD j 0 → i = j := fun {i j} hi hj h => by
      obtain ⟨o1, e1, _⟩ := onm _ hi
      obtain ⟨o2, e2, _⟩ := onm _ hj
      rw [List.getD_eq_getElem?_getD, List.getD_eq_getElem?_getD, e1, e2] at h
      have h' : o1 = o2 := h
      subst h'
      exact nodup_ix ond e1 e2
    have olt : ∀ {i}, i < 1 + r → os.getD i 0 < 1 + r := fun {i} hi => by
      obtain ⟨o1, e1, h1⟩ := onm _ hi
      rw [List.getD_eq_getElem?_getD, e1]
      exact h1
    subst hls'
    refine ⟨hts, by omega, by omega, fun t ht => ?_, ?_, by rw [List.length_map]; omega⟩
    · obtain ⟨u, hu, rfl⟩ := List.mem_map.mp ht
      obtain ⟨g1, g2, g3, _⟩ := hls.ok u hu
      rw [htl]
      exact ⟨olt g1, olt g2, fun e => g3 (oin g1 g2 e)⟩
    · refine nodup_map_on (fun t ht u hu e => ?_) hls.nd
      obtain ⟨g1, g2, _⟩ := hls.ok t ht
      obtain ⟨k1, k2, _⟩ := hls.ok u hu
      injection e with e1 e2
      exact Prod.ext (oin g1 k1 e1) (oin g2 k2 e2)
  have e : ls.map (fun t => ipD (os.getD t.1 0, os.getD t.2 0)) = ls'.map ipD := by
    rw [hls', List.map_map]
    rfl
  rw [e]
  refine ⟨ts, ls', rfl, N, ?_⟩
  and_intros
  rw [← htl]
  exact cl (q ts ls' a b c N (by omega) (by rw [hls', List.length_map]; exact hl9))
end
section
open PySem PySem.Spec PyProof.Rows
/-! ### many lists of numbers, each an object -/
/-! ### numbered -/
theorem ixDic {t : Bool} {kvs : List (D × D)} {k v : D} {S : SO} {Q : KD} (ok : keyOk t k) (e : dget kvs k = some v) (h : Q v S) : oIx (.dic t kvs) k S Q := .inr (.inr ⟨t, kvs, v, rfl, ok, e, h⟩)
theorem key_str (p : Str) : keyOk false (.str p) := ⟨.inr p, rfl⟩
end
end L2.DL
namespace L2.DL
open PySem PySem.Spec PyProof.Rows
/-! ### texts of webs are apart -/
def flatJ (c : Nat) : List (List Nat) → List Nat
  | [] => []
  | [x] => x
  | x :: y :: r => x ++ c :: flatJ c (y :: r)
theorem split_at {c : Nat} : ∀ {x x' a b : List Nat}, c ∉ x → c ∉ x' → x ++ c :: a = x' ++ c :: b → x = x' ∧ a = b
  | [], [], _, _, _, _, h => ⟨rfl, (List.cons.inj h).2⟩
  | [], y :: x', _, _, _, h', h => absurd ((List.cons.inj h).1 ▸ List.mem_cons_self ..) h'
  | y :: x, [], _, _, h', _, h => absurd ((List.cons.inj h).1 ▸ List.mem_cons_self ..) h'
  | y :: x, z :: x', a, b, h1, h2, h => by
    obtain ⟨e1, e2⟩ := List.cons.inj h
    obtain ⟨e3, e4⟩ := split_at (fun m => h1 (List.mem_cons_of_mem _ m)) (fun m => h2 (List.mem_cons_of_mem _ m)) e2
    exact ⟨by rw [e1, e3], e4⟩
theorem flatJ_inj {c : Nat} : ∀ {xs ys : List (List Nat)}, xs ≠ [] → ys ≠ [] → (∀ x ∈ xs, c ∉ x) → (∀ y ∈ ys, c ∉ y) → flatJ c xs = flatJ c ys → xs = ys
  | [], _, h, _, _, _, _ => absurd rfl h
  | _, [], _, h, _, _, _ => absurd rfl h
  | [x], [y], _, _, _, _, h => by
    have e : x = y := h
    rw [e]
  | [x], y :: z :: r, _, _, h1, _, h => by
    have e : x = y ++ c :: flatJ c (z :: r) := h
    exact absurd (by rw [e]; simp) (h1 x (List.mem_cons_self ..))
  | x :: z :: r, [y], _, _, _, h2, h => by
    have e : x ++ c :: flatJ c (z :: r) = y := h
    exact absurd (by rw [← e]; simp) (h2 y (List.mem_cons_self ..))
  | x :: z :: r, y :: w :: q, _, _, h1, h2, h => by
    obtain ⟨e1, e2⟩ := split_at (h1 x (List.mem_cons_self ..)) (h2 y (List.mem_cons_self ..)) (show x ++ c :: flatJ c (z :: r) = y ++ c :: flatJ c (w :: q) from h)
    have := flatJ_inj (xs := z :: r) (ys := w :: q) (by simp) (by simp) (fun a ha => h1 a (List.mem_cons_of_mem _ ha)) (fun a ha => h2 a (List.mem_cons_of_mem _ ha)) e2
    rw [e1, this]
theorem join_flat (z : Str) (c : Nat) (hz : z.cps = #[c]) : ∀ ys : List Str, (Txt.join z ys).cps.toList = flatJ c (ys.map fun y => y.cps.toList) := by
  intro ys
  show (Builtin.Str.glued _ _).cps.toList = _
  rw [StrLaws.glued_eq_join]
  induction ys with
  | nil => rfl
  | cons x r ih =>
    cases r with
    | nil => rfl
    | cons y r =>
      show ((x.cps ++ z.cps) ++ (Str.join z (y :: r)).cps).toList = x.cps.toList ++ c :: flatJ c ((y :: r).map fun y => y.cps.toList)
      rw [Array.toList_append, Array.toList_append, hz, ih]
      simp
theorem str_ext {a b : Str} (h : a.cps.toList = b.cps.toList) : a = b := by
  obtain ⟨a⟩ := a
  obtain ⟨b⟩ := b
  have : a = b := Array.ext' h
  rw [this]
theorem strs_ext : ∀ {a b : List Str}, a.map (fun y => y.cps.toList) = b.map (fun y => y.cps.toList) → a = b
  | [], [], _ => rfl
  | [], _ :: _, h => by cases h
  | _ :: _, [], h => by cases h
  | x :: a, y :: b, h => by
    obtain ⟨h1, h2⟩ := List.cons.inj h
    rw [str_ext h1, strs_ext h2]
theorem join_inj {z : Str} {c : Nat} (hz : z.cps = #[c]) {xs ys : List Str} (n1 : xs ≠ []) (n2 : ys ≠ []) (h1 : ∀ x ∈ xs, c ∉ x.cps.toList) (h2 : ∀ x ∈ ys, c ∉ x.cps.toList) (h : Txt.join z xs = Txt.join z ys) : xs = ys := by
  have e := congrArg (fun s : Str => s.cps.toList) h
  simp only [join_flat z c hz] at e
  refine strs_ext (flatJ_inj (by simpa using n1) (by simpa using n2) (fun x hx => ?_) (fun x hx => ?_) e)
  · obtain ⟨y, hy, rfl⟩ := List.mem_map.mp hx
    exact h1 y hy
  · obtain ⟨y, hy, rfl⟩ := List.mem_map.mp hx
    exact h2 y hy
theorem flatJ_mem {c d : Nat} : ∀ {xs : List (List Nat)}, d ∈ flatJ c xs → d = c ∨ ∃ x ∈ xs, d ∈ x
  | [], h => by cases h
  | [x], h => .inr ⟨x, List.mem_cons_self .., h⟩
  | x :: y :: r, h => by
    rcases List.mem_append.mp (show d ∈ x ++ c :: flatJ c (y :: r) from h) with h | h
    · exact .inr ⟨x, List.mem_cons_self .., h⟩
    · rcases List.mem_cons.mp h with h | h
      · exact .inl h
      · rcases flatJ_mem h with h | ⟨z, hz, h⟩
        · exact .inl h
        · exact .inr ⟨z, List.mem_cons_of_mem _ hz, h⟩
theorem words_low {ps : List Str} {ts : List (Str × Str)} (ok : WebOk ps ts) : ∀ r ∈ wordsOf ps ts, ∀ x ∈ r, ∀ c ∈ x.cps.toList, 97 ≤ c := by
  have hl : ∀ c ∈ LETTERS.cps.toList, 97 ≤ c := by decide +kernel
  have hp : ∀ c ∈ ("places" : Str).cps.toList, 97 ≤ c := by decide +kernel
  have nm : ∀ x ∈ ps, ∀ c ∈ x.cps.toList, 97 ≤ c := fun x hx c hc => hl c ((name_chars (ok.nm x hx)).2.2 c hc)
  intro r hr x hx
  rcases List.mem_cons.mp hr with rfl | hr
  · rcases List.mem_cons.mp hx with rfl | hx
    · exact hp
    · exact nm x hx
  · obtain ⟨t, ht, rfl⟩ := List.mem_map.mp hr
    obtain ⟨h1, h2, _⟩ := ok.tie t ht
    simp only [List.mem_cons, List.not_mem_nil, or_false] at hx
    rcases hx with rfl | rfl
    · exact nm _ h1
    · exact nm _ h2
end L2.DL

namespace L2.DL
open PySem PySem.Spec PyProof.Rows
/-! ### k02: the page as text -/
theorem page_len {ps : List Str} {ts : List (Str × Str)} (ok : WebOk ps ts) : (pageOf ps ts).length ≤ 80000 := by
  obtain ⟨h1, h2⟩ := lines_few ok
  have h4 := sum_le (f := fun x : Str => x.length) (b := 369) (l := linesOf ps ts) h2
  have h5 : ("\n" : Str).length = 1 := by decide
  have h6 := join_len "\n" (linesOf ps ts)
  rw [h5] at h6
  unfold pageOf
  omega
end L2.DL

namespace L2.DL
open PySem PySem.Spec PyProof.Rows
/-! ### a walk that looks for rings: row the way to here, vals what is left to see at each of its places, ks the places from which no ring is reached, in the order in which that was found -/
end L2.DL

namespace L2.DL
open PySem PySem.Spec PyProof.Rows
/-! ### numbers paired with numbers they lead to: bg for each end the begin, en for each begin the end -/
section
variable {nx : List (List Nat)} {bg en bg1 en1 : List (Option Nat)} {b e0 a : Nat} {T Ti : List Nat}
/-! ### the loop over the leads of b -/
/-! ### all numbers, one after the other -/
end
end L2.DL

namespace L2.DL
local macro_rules | `(tactic| and_intros) => `(tactic| repeat (first | with_reducible refine xInt ?_ | with_reducible refine iModL ?_ | with_reducible refine xMakeF ?_ | with_reducible refine xSubD ?_ | with_reducible refine fldRow ?_ | with_reducible refine fldPairs ?_ | with_reducible refine fldMarks ?_ | with_reducible refine mthTie ?_ | with_reducible refine hasTie ?_ | with_reducible refine chkWeb ?_ | with_reducible refine isiTup ?_ | with_reducible refine isiTf ?_ | with_reducible refine isiStr ?_ | with_reducible refine v0 ?_ | with_reducible refine vS ?_ | with_reducible refine xC ?_ | with_reducible refine xCons ?_ | with_reducible refine xNil ?_ | with_reducible refine xO ?_ | with_reducible refine xCall ?_ | with_reducible refine xSeq ?_ | with_reducible refine xAsg ?_ | with_reducible refine g0 ?_ | with_reducible refine gSu ?_ | with_reducible refine xNext ?_ | with_reducible refine xRet ?_ | with_reducible refine xIfS ?_ | with_reducible refine xB ?_ | with_reducible refine isT ?_ | with_reducible refine isF ?_ | with_reducible refine isT' ?_ | with_reducible refine isF' ?_ | with_reducible refine iT ?_ | with_reducible refine iF ?_ | with_reducible refine iNT ?_ | with_reducible refine iNF ?_ | with_reducible refine xAnd ?_ | with_reducible refine xOr ?_ | with_reducible refine xNot ?_ | with_reducible refine xAndV ?_ | with_reducible refine xOrV ?_ | with_reducible refine xNotV ?_ | with_reducible refine xIf ?_ | with_reducible refine xCh ?_ | with_reducible refine xYes ?_ | with_reducible refine iAdd ?_ | with_reducible refine iSub ?_ | with_reducible refine iAnd ?_ | with_reducible refine iOr ?_ | with_reducible refine iLt ?_ | with_reducible refine iLe ?_ | with_reducible refine iGt ?_ | with_reducible refine iGe ?_ | with_reducible refine iEq ?_ | with_reducible refine iNe ?_ | with_reducible refine sEq ?_ | with_reducible refine sNe ?_ | with_reducible refine iNeg ?_ | with_reducible refine isN1 ?_ | with_reducible refine isN2 ?_ | with_reducible refine noN2 ?_ | with_reducible refine xLen ?_ | with_reducible refine lTupM ?_ | with_reducible refine lTfM ?_ | with_reducible refine lLstM ?_ | with_reducible refine lSrcM ?_ | with_reducible refine lTup ?_ | with_reducible refine lTf ?_ | with_reducible refine lLst ?_ | with_reducible refine lSrc ?_ | with_reducible refine lDic ?_ | with_reducible refine xAllM ?_ | with_reducible refine xAnyM ?_ | with_reducible refine xAll ?_ | with_reducible refine xFnC ?_ | with_reducible refine xFld ?_ | with_reducible refine xMth ?_ | with_reducible refine xSeqI ?_ | with_reducible refine sTup ?_ | with_reducible refine sTf ?_ | with_reducible refine sLst ?_ | with_reducible refine sSrc ?_ | with_reducible refine xEnum ?_ | with_reducible refine one1 ?_ | with_reducible refine xRng1 ?_ | with_reducible refine xRng2 ?_ | with_reducible refine int1' ?_ | with_reducible refine int2' ?_ | with_reducible refine xFor ?_ | with_reducible refine xTup ?_ | with_reducible refine xTupF ?_ | with_reducible refine xLst ?_ | with_reducible refine xNew ?_ | with_reducible refine xU ?_ | with_reducible refine xDrop ?_ | with_reducible refine xRetN ?_ | with_reducible refine xBreak ?_ | with_reducible refine xCont ?_ | with_reducible refine xStar ?_ | with_reducible refine gTup ?_ | with_reducible refine gCons ?_ | with_reducible refine gNil ?_ | with_reducible refine xSl ?_ | with_reducible refine pN ?_ | with_reducible refine pS ?_ | with_reducible refine isI1 ?_ | with_reducible refine slTup ?_ | with_reducible refine slSrc ?_ | with_reducible refine slLst ?_ | with_reducible refine xPar ?_ | with_reducible refine xPar3 ?_ | with_reducible refine two2' ?_ | with_reducible refine three' ?_ | with_reducible refine xBM ?_ | with_reducible refine bmLst ?_ | with_reducible refine bmSrc ?_ | with_reducible refine tfL ?_ | with_reducible refine tuL ?_ | with_reducible refine tuT ?_ | with_reducible refine xRevU ?_ | with_reducible refine revTup ?_ | with_reducible refine revTf ?_ | with_reducible refine xDicF ?_ | with_reducible refine xLcF ?_ | with_reducible refine xLcN ?_ | with_reducible refine xZip ?_ | with_reducible refine xCl ?_ | with_reducible refine andL (by with_unfolding_all exact lez rfl) ?_))
section
open PySem PySem.Spec PyProof.Rows
theorem shaped_n (x : Nat) : SeqAt.shaped (.int (x : Int)) = true := shaped_of (by simp [PyData.canLay0]) (by simp [PyData.depth])
theorem eqv_n (y x : Nat) : PyData.eqv (.int (y : Int)) (.int (x : Int)) = decide (y = x) := by
  by_cases e : y = x
  · subst e
    simp [PyData.eqv]
  · have e2 : ¬ ((y : Int) = (x : Int)) := fun h => e (by omega)
    simp [PyData.eqv, e, e2]
theorem memN {S : SO} {x : Nat} {xs : List Nat} {k : Bool → Prop} (h : k (decide (x ∈ xs))) : memD S (iD x) (nsD xs) k := by
  refine ⟨.int x, xs.map fun i : Nat => PyData.int i, rfl, pyDs_iD xs, shaped_n x, shaped_ints xs, ?_⟩
  have e : (xs.map fun i : Nat => PyData.int i).any (fun z => PyData.eqv z (.int x)) = decide (x ∈ xs) := by
    rw [List.any_map]
    by_cases hm : x ∈ xs
    · rw [decide_eq_true hm, List.any_eq_true]
      exact ⟨x, hm, by show PyData.eqv (.int (x : Int)) (.int (x : Int)) = true; rw [eqv_n]; simp⟩
    · rw [decide_eq_false hm, List.any_eq_false]
      intro y hy
      show ¬ PyData.eqv (.int (y : Int)) (.int (x : Int)) = true
      rw [eqv_n]
      intro e
      exact hm (of_decide_eq_true e ▸ hy)
  rw [e]
  exact h
end
section
open PySem PySem.Spec PyProof.Rows
/-! ### ring_of, ring, ringless -/
end
section
open PySem PySem.Spec PyProof.Rows
/-! ### the law's own look at rings -/
end
section
open PySem PySem.Spec PyProof.Rows
theorem xBMt {w : WM} {wo : WE} {t : WA} {sd : SD} {S : SO} {Q : KD} (h : wo sd S fun d S1 => (∃ xs, d = .tf xs) ∧ t sd S1 fun xs S2 => w d xs S2 Q) : wBMt w wo t sd S Q := h
end
section
open PySem PySem.Spec PyProof.Rows
/-- a road by numbers -/
structure RoadI (n : Nat) (ls : List (Nat × Nat)) (rg : List Nat) : Prop where
  ne : rg ≠ []
  nd : rg.Nodup
  low : ∀ v ∈ rg, v < n
  path : ∀ (i a b : Nat), rg[i]? = some a → rg[i + 1]? = some b → (a, b) ∈ ls
abbrev nmR (ts : List Str) (rg : List Nat) : List Str := rg.map fun i => ts.getD i Str.empty
theorem idx_getD {ts : List Str} {i : Nat} (nd : ts.Nodup) (hi : i < ts.length) : List.idxOf (ts.getD i Str.empty) ts = i := by
  rw [List.getD_eq_getElem?_getD, List.getElem?_eq_getElem hi]
  exact nd.idxOf_getElem i hi
end
end L2.DL
namespace L2.DL
local macro_rules | `(tactic| and_intros) => `(tactic| repeat (first | with_reducible refine xInt ?_ | with_reducible refine iModL ?_ | with_reducible refine xMakeF ?_ | with_reducible refine xSubD ?_ | with_reducible refine xGTl ?_ | with_reducible refine fldRow ?_ | with_reducible refine fldPairs ?_ | with_reducible refine fldMarks ?_ | with_reducible refine mthTie ?_ | with_reducible refine hasTie ?_ | with_reducible refine chkWeb ?_ | with_reducible refine isiTup ?_ | with_reducible refine isiTf ?_ | with_reducible refine isiStr ?_ | with_reducible refine v0 ?_ | with_reducible refine vS ?_ | with_reducible refine xC ?_ | with_reducible refine xCons ?_ | with_reducible refine xNil ?_ | with_reducible refine xO ?_ | with_reducible refine xCall ?_ | with_reducible refine xSeq ?_ | with_reducible refine xAsg ?_ | with_reducible refine g0 ?_ | with_reducible refine gSu ?_ | with_reducible refine xNext ?_ | with_reducible refine xRet ?_ | with_reducible refine xIfS ?_ | with_reducible refine xB ?_ | with_reducible refine isT ?_ | with_reducible refine isF ?_ | with_reducible refine isT' ?_ | with_reducible refine isF' ?_ | with_reducible refine iT ?_ | with_reducible refine iF ?_ | with_reducible refine iNT ?_ | with_reducible refine iNF ?_ | with_reducible refine xAnd ?_ | with_reducible refine xOr ?_ | with_reducible refine xNot ?_ | with_reducible refine xAndV ?_ | with_reducible refine xOrV ?_ | with_reducible refine xNotV ?_ | with_reducible refine xIf ?_ | with_reducible refine xCh ?_ | with_reducible refine xYes ?_ | with_reducible refine iAdd ?_ | with_reducible refine iSub ?_ | with_reducible refine iAnd ?_ | with_reducible refine iOr ?_ | with_reducible refine iLt ?_ | with_reducible refine iLe ?_ | with_reducible refine iGt ?_ | with_reducible refine iGe ?_ | with_reducible refine iEq ?_ | with_reducible refine iNe ?_ | with_reducible refine sEq ?_ | with_reducible refine sNe ?_ | with_reducible refine iNeg ?_ | with_reducible refine isN1 ?_ | with_reducible refine isN2 ?_ | with_reducible refine noN2 ?_ | with_reducible refine xLen ?_ | with_reducible refine lTupM ?_ | with_reducible refine lTfM ?_ | with_reducible refine lLstM ?_ | with_reducible refine lSrcM ?_ | with_reducible refine lTup ?_ | with_reducible refine lTf ?_ | with_reducible refine lLst ?_ | with_reducible refine lSrc ?_ | with_reducible refine lDic ?_ | with_reducible refine xAllM ?_ | with_reducible refine xAnyM ?_ | with_reducible refine xAll ?_ | with_reducible refine xFnC ?_ | with_reducible refine xFld ?_ | with_reducible refine xMth ?_ | with_reducible refine xSeqI ?_ | with_reducible refine sTup ?_ | with_reducible refine sTf ?_ | with_reducible refine sLst ?_ | with_reducible refine sSrc ?_ | with_reducible refine xEnum ?_ | with_reducible refine one1 ?_ | with_reducible refine xRng1 ?_ | with_reducible refine xRng2 ?_ | with_reducible refine int1' ?_ | with_reducible refine int2' ?_ | with_reducible refine xFor ?_ | with_reducible refine xTup ?_ | with_reducible refine xTupF ?_ | with_reducible refine xLst ?_ | with_reducible refine xNew ?_ | with_reducible refine xU ?_ | with_reducible refine xDrop ?_ | with_reducible refine xRetN ?_ | with_reducible refine xBreak ?_ | with_reducible refine xCont ?_ | with_reducible refine xStar ?_ | with_reducible refine gTup ?_ | with_reducible refine gCons ?_ | with_reducible refine gNil ?_ | with_reducible refine xSl ?_ | with_reducible refine pN ?_ | with_reducible refine pS ?_ | with_reducible refine isI1 ?_ | with_reducible refine slTup ?_ | with_reducible refine slSrc ?_ | with_reducible refine slLst ?_ | with_reducible refine xPar ?_ | with_reducible refine xPar3 ?_ | with_reducible refine two2' ?_ | with_reducible refine three' ?_ | with_reducible refine xBM ?_ | with_reducible refine bmLst ?_ | with_reducible refine bmSrc ?_ | with_reducible refine tfL ?_ | with_reducible refine tuL ?_ | with_reducible refine tuT ?_ | with_reducible refine xRevU ?_ | with_reducible refine revTup ?_ | with_reducible refine revTf ?_ | with_reducible refine xDicF ?_ | with_reducible refine xLcF ?_ | with_reducible refine xLcN ?_ | with_reducible refine xZip ?_ | with_reducible refine xCl ?_ | with_reducible refine andL (by with_unfolding_all exact lez rfl) ?_))
section
open PySem PySem.Spec PyProof.Rows
def rowL (r : List Str) : D := .lst (plD r)
def partD (rs : List (List Str)) : D := .lst (rs.map rowL)
instance : InjD rowL := ⟨fun a b e => by
  unfold rowL plD at e
  injection e with e
  exact map_inj e⟩
end
section
open PySem PySem.Spec PyProof.Rows
end
section
open PySem PySem.Spec PyProof.Rows
/-! ### _law_order as a list that changes -/
/-! ### as_lists, as_tuples, step -/
def rowT (r : List Str) : D := .tf (plD r)
instance : InjD rowT := ⟨fun a b e => by
  unfold rowT plD at e
  injection e with e
  exact map_inj e⟩
/-! ### partings by numbers -/
abbrev nsL (r : List Nat) : D := .lst (nsD r)
instance : InjD nsL := ⟨fun a b e => by
  unfold nsL nsD at e
  injection e with e
  exact map_inj e⟩
abbrev partN (rs : List (List Nat)) : D := .lst (rs.map nsL)
theorem RoadI.nm {ts : List Str} {ls : List (Nat × Nat)} {r : List Nat} (N : NetI ts ls) (R : RoadI ts.length ls r) : RoadOk ts (nmL ts ls) (nmR ts r) := by
  refine ⟨by intro e; exact R.ne (List.map_eq_nil_iff.mp e), nodup_map_on (fun a ha b hb e => getD_inj N.nm.2 (R.low a ha) (R.low b hb) e) R.nd, fun x hx => ?_, fun i a b ha hb => ?_⟩
  · obtain ⟨k, hk, rfl⟩ := List.mem_map.mp hx
    exact List.mem_of_getElem? (getD_get (R.low k hk))
  · unfold nmR at ha hb
    rw [List.getElem?_map] at ha hb
    obtain ⟨u, hu, rfl⟩ := Option.map_eq_some_iff.mp ha
    obtain ⟨v, hv, rfl⟩ := Option.map_eq_some_iff.mp hb
    exact List.mem_map.mpr ⟨(u, v), R.path i u v hu hv, rfl⟩
/-- the numbers of names -/
def ixR (ts : List Str) (r : List Str) : List Nat := r.map fun x => List.idxOf x ts
theorem RoadOk.ix {ts : List Str} {ls : List (Nat × Nat)} {r : List Str} (N : NetI ts ls) (R : RoadOk ts (nmL ts ls) r) : RoadI ts.length ls (ixR ts r) := by
  have gx : ∀ x ∈ r, ts[List.idxOf x ts]? = some x := fun x hx => by
    have hl := List.idxOf_lt_length_of_mem (R.sub x hx)
    rw [List.getElem?_eq_getElem hl, List.getElem_idxOf hl]
  refine ⟨by intro e; exact R.ne (List.map_eq_nil_iff.mp e), nodup_map_on (fun x hx y hy e => ?_) R.nd, fun v hv => ?_, fun i a b ha hb => ?_⟩
  · have h1 := gx x hx
    rw [e, gx y hy] at h1
    exact (Option.some.inj h1).symm
  · obtain ⟨x, hx, rfl⟩ := List.mem_map.mp hv
    exact List.idxOf_lt_length_of_mem (R.sub x hx)
  · unfold ixR at ha hb
    rw [List.getElem?_map] at ha hb
    obtain ⟨x, hx, rfl⟩ := Option.map_eq_some_iff.mp ha
    obtain ⟨y, hy, rfl⟩ := Option.map_eq_some_iff.mp hb
    obtain ⟨⟨u, v⟩, hu, e⟩ := List.mem_map.mp (R.step i x y hx hy)
    obtain ⟨h1, h2, _⟩ := N.ok _ hu
    unfold nmT at e
    injection e with e1 e2
    rw [← e1, ← e2, idx_getD N.nm.2 h1, idx_getD N.nm.2 h2]
    exact hu
end
section
open PySem PySem.Spec PyProof.Rows
/-! ### three objects beside one another -/
section
variable {S : SO} {p r f g : Addr} {x x' y y' z z' u : DO}
def o3 (S : SO) (p r f : Addr) (x y z : DO) : SO := ((S.set p x).set r y).set f z
end
/-! ### roads by numbers -/
theorem RoadI.one {n : Nat} {ls : List (Nat × Nat)} {v : Nat} (h : v < n) : RoadI n ls [v] := ⟨by simp, by simp, fun u hu => by rw [List.mem_singleton.mp hu]; exact h, fun i a b _ hb => by simp at hb⟩
theorem RoadI.snoc {n : Nat} {ls : List (Nat × Nat)} {r : List Nat} {u v : Nat} (R : RoadI n ls r) (hu : r.getLast? = some u) (hv : v < n) (hn : v ∉ r) (ht : (u, v) ∈ ls) : RoadI n ls (r ++ [v]) := by
  refine ⟨by simp, ?_, fun z hz => ?_, fun i a b ha hb => ?_⟩
  · rw [List.nodup_append]
    exact ⟨R.nd, by simp, fun a ha b hb e => hn (by rw [List.mem_singleton] at hb; rw [← hb, ← e]; exact ha)⟩
  · rcases List.mem_append.mp hz with hz | hz
    · exact R.low z hz
    · rw [List.mem_singleton.mp hz]
      exact hv
  · have hl : i + 1 < (r ++ [v]).length := (List.getElem?_eq_some_iff.mp hb).1
    rw [List.length_append, List.length_singleton] at hl
    rw [List.getElem?_append_left (by omega)] at ha
    by_cases hi : i + 1 < r.length
    · rw [List.getElem?_append_left hi] at hb
      exact R.path i a b ha hb
    · rw [List.getElem?_append_right (by omega), show i + 1 - r.length = 0 by omega] at hb
      have hb : v = b := Option.some.inj hb
      rw [List.getLast?_eq_getElem?, show r.length - 1 = i by omega, ha] at hu
      rw [← hb, Option.some.inj hu]
      exact ht
/-! ### _law_parted -/
end
section
open PySem PySem.Spec PyProof.Rows
/-! ### Pairing.grow -/
theorem ixN_nat {n k : Nat} (h : k < n) : ixN n (k : Nat) = some k := by
  unfold ixN
  rw [if_pos (by omega), if_pos (by omega)]
  rfl
end
section
open PySem PySem.Spec PyProof.Rows
/-! ### Pairing(leads), pairing_of -/
theorem Wk.dropS {sd : SD} {S : SO} {p : Addr} {o : DO} (h : S p = none) : Wk sd (S.set p o) sd S := Wk.to fun a u e => by
  rw [set_ne (so_ne e h)]
  exact e
end
section
open PySem PySem.Spec PyProof.Rows
end
section
open PySem PySem.Spec PyProof.Rows
/-! ### all partings, as mathematics -/
end
section
open PySem PySem.Spec PyProof.Rows
/-! ### _law_goes, _law_all_partings -/
instance : InjD partN := ⟨fun a b e => by
  unfold partN at e
  injection e with e
  exact map_inj e⟩
end
section
open PySem PySem.Spec PyProof.Rows
/-! ### whether something is a parting: a right one -/
/-! ### whether something is a witness: a right one -/
/-! ### k51 -/
end
section
open PySem PySem.Spec PyProof.Rows
/-! ### improved_of -/
def w3 : List Str ⊕ List (List Str) → D
  | .inl w => .lst (plD w)
  | .inr _ => .non
def w4 : List Str ⊕ List (List Str) → D
  | .inl _ => .non
  | .inr r => partD r
/-! ### the greatest free set -/
end
section
open PySem PySem.Spec PyProof.Rows
/-! ### k46 -/
theorem NetI.loop {ts : List Str} {ls : List (Nat × Nat)} (N : NetI ts ls) : ∀ a, (a, a) ∉ ls := fun a h => (N.ok _ h).2.2 rfl
end
section
open PySem PySem.Spec PyProof.Rows
/-! ### k45 -/
def lastN (r : List Nat) : Nat := r.getLastD 0
theorem lastN_eq {r : List Nat} (h : r ≠ []) : r.getLast? = some (lastN r) := by
  unfold lastN
  rw [List.getLastD_eq_getLast?]
  cases e : r.getLast? with
  | none => exact absurd (List.getLast?_eq_none_iff.mp e) h
  | some x => rfl
theorem ninN {S : SO} {Q : KD} {v : Nat} {l : List Nat} (h : Q (.bl (!decide (v ∈ l))) S) : oNotIn (.int (v : Nat)) (.lst (nsD l)) S Q := .inl ⟨_, rfl, memN (x := v) h⟩
theorem xFnK {sp : DSp} {gD : List D → List D → List D} {t tk : WA} {sd : SD} {S : SO} {Q : KD} (h : t sd S fun xs S1 => tk sd S1 fun ys S2 => sp (gD xs ys) S2 Q NoE) : wFnK sp gD t tk sd S Q := h
end
section
open PySem PySem.Spec PyProof.Rows
/-! ### k47 -/
section
variable {W : Addr} {S : SO} {Q : KD} {E : EK} {ts : List Str} {w : List (Nat × Nat)}
end
end
section
open PySem PySem.Spec PyProof.Rows
/-! ### each parting has a witness or a step (Gallai, Milgram) -/
/-! ### k60 -/
end
end L2.DL
namespace L2.DL
open PySem PySem.Spec PyProof.Rows
/-! ### few roads by many pairs -/
section
variable {n : Nat} {ls : List (Nat × Nat)} {R : List (List Nat)}
end
/-! ### so many roads, if there is no ring -/
end L2.DL

namespace L2.DL
open PySem PySem.Spec PyProof.Rows
/-! ### roads put together along the pairs -/
theorem RoadI.app {n : Nat} {ls : List (Nat × Nat)} {q r : List Nat} {b e : Nat} (Q : RoadI n ls q) (R : RoadI n ls r) (hd : ∀ x ∈ q, x ∉ r) (hb : lastN q = b) (he : r[0]? = some e) (ht : (b, e) ∈ ls) : RoadI n ls (q ++ r) := by
  have lq := List.length_pos_iff.mpr Q.ne
  refine ⟨by simp [Q.ne], List.nodup_append.mpr ⟨Q.nd, R.nd, fun x hx y hy e => hd x hx (e ▸ hy)⟩, fun v hv => ?_, fun i a c ha hc => ?_⟩
  · rcases List.mem_append.mp hv with hv | hv
    · exact Q.low v hv
    · exact R.low v hv
  · by_cases h : i + 1 < q.length
    · rw [List.getElem?_append_left (by omega)] at ha
      rw [List.getElem?_append_left h] at hc
      exact Q.path i a c ha hc
    · by_cases h2 : i < q.length
      · rw [List.getElem?_append_left h2] at ha
        rw [List.getElem?_append_right (by omega), show i + 1 - q.length = 0 by omega, he] at hc
        cases hc
        have e := lastN_eq Q.ne
        rw [List.getLast?_eq_getElem?, show q.length - 1 = i by omega, ha] at e
        have := Option.some.inj e
        rw [this, hb]
        exact ht
      · rw [List.getElem?_append_right (by omega)] at ha hc
        exact R.path (i - q.length) a c ha (by rw [← hc]; congr 1; omega)
end L2.DL

namespace L2.DL
open PySem PySem.Spec PyProof.Rows
/-! ### values compared part by part -/
end L2.DL

namespace L2.DL
local macro_rules | `(tactic| and_intros) => `(tactic| repeat (first | with_reducible refine xInt ?_ | with_reducible refine iModL ?_ | with_reducible refine xMakeF ?_ | with_reducible refine xSubD ?_ | with_reducible refine xGTl ?_ | with_reducible refine fldRow ?_ | with_reducible refine fldPairs ?_ | with_reducible refine fldMarks ?_ | with_reducible refine mthTie ?_ | with_reducible refine hasTie ?_ | with_reducible refine chkWeb ?_ | with_reducible refine isiTup ?_ | with_reducible refine isiTf ?_ | with_reducible refine isiStr ?_ | with_reducible refine v0 ?_ | with_reducible refine vS ?_ | with_reducible refine xC ?_ | with_reducible refine xCons ?_ | with_reducible refine xNil ?_ | with_reducible refine xO ?_ | with_reducible refine xCall ?_ | with_reducible refine xSeq ?_ | with_reducible refine xAsg ?_ | with_reducible refine g0 ?_ | with_reducible refine gSu ?_ | with_reducible refine xNext ?_ | with_reducible refine xRet ?_ | with_reducible refine xIfS ?_ | with_reducible refine xB ?_ | with_reducible refine isT ?_ | with_reducible refine isF ?_ | with_reducible refine isT' ?_ | with_reducible refine isF' ?_ | with_reducible refine iT ?_ | with_reducible refine iF ?_ | with_reducible refine iNT ?_ | with_reducible refine iNF ?_ | with_reducible refine xAnd ?_ | with_reducible refine xOr ?_ | with_reducible refine xNot ?_ | with_reducible refine xAndV ?_ | with_reducible refine xOrV ?_ | with_reducible refine xNotV ?_ | with_reducible refine xIf ?_ | with_reducible refine xCh ?_ | with_reducible refine xYes ?_ | with_reducible refine iAdd ?_ | with_reducible refine iSub ?_ | with_reducible refine iAnd ?_ | with_reducible refine iOr ?_ | with_reducible refine iLt ?_ | with_reducible refine iLe ?_ | with_reducible refine iGt ?_ | with_reducible refine iGe ?_ | with_reducible refine iEq ?_ | with_reducible refine iNe ?_ | with_reducible refine sEq ?_ | with_reducible refine sNe ?_ | with_reducible refine iNeg ?_ | with_reducible refine isN1 ?_ | with_reducible refine isN2 ?_ | with_reducible refine noN2 ?_ | with_reducible refine xLen ?_ | with_reducible refine lTupM ?_ | with_reducible refine lTfM ?_ | with_reducible refine lLstM ?_ | with_reducible refine lSrcM ?_ | with_reducible refine lTup ?_ | with_reducible refine lTf ?_ | with_reducible refine lLst ?_ | with_reducible refine lSrc ?_ | with_reducible refine lDic ?_ | with_reducible refine xAllM ?_ | with_reducible refine xAnyM ?_ | with_reducible refine xAll ?_ | with_reducible refine xFnC ?_ | with_reducible refine xFld ?_ | with_reducible refine xMth ?_ | with_reducible refine xSeqI ?_ | with_reducible refine sTup ?_ | with_reducible refine sTf ?_ | with_reducible refine sLst ?_ | with_reducible refine sSrc ?_ | with_reducible refine xEnum ?_ | with_reducible refine one1 ?_ | with_reducible refine xRng1 ?_ | with_reducible refine xRng2 ?_ | with_reducible refine int1' ?_ | with_reducible refine int2' ?_ | with_reducible refine xFor ?_ | with_reducible refine xTup ?_ | with_reducible refine xTupF ?_ | with_reducible refine xLst ?_ | with_reducible refine xNew ?_ | with_reducible refine xU ?_ | with_reducible refine xDrop ?_ | with_reducible refine xRetN ?_ | with_reducible refine xBreak ?_ | with_reducible refine xCont ?_ | with_reducible refine xStar ?_ | with_reducible refine gTup ?_ | with_reducible refine gCons ?_ | with_reducible refine gNil ?_ | with_reducible refine xSl ?_ | with_reducible refine pN ?_ | with_reducible refine pS ?_ | with_reducible refine isI1 ?_ | with_reducible refine slTup ?_ | with_reducible refine slSrc ?_ | with_reducible refine slLst ?_ | with_reducible refine xPar ?_ | with_reducible refine xPar3 ?_ | with_reducible refine two2' ?_ | with_reducible refine three' ?_ | with_reducible refine xBM ?_ | with_reducible refine bmLst ?_ | with_reducible refine bmSrc ?_ | with_reducible refine tfL ?_ | with_reducible refine tuL ?_ | with_reducible refine tuT ?_ | with_reducible refine xRevU ?_ | with_reducible refine revTup ?_ | with_reducible refine revTf ?_ | with_reducible refine xDicF ?_ | with_reducible refine xLcF ?_ | with_reducible refine xLcN ?_ | with_reducible refine xZip ?_ | with_reducible refine xCl ?_ | with_reducible refine andL (by with_unfolding_all exact lez rfl) ?_))
section
open PySem PySem.Spec PyProof.Rows
/-! ### no ring: by ranks, by the law's own look -/
/-! ### check_ringless, fewest_ringless -/
/-! ### is_witness of a right one -/
end
section
open PySem PySem.Spec PyProof.Rows
/-! ### k71 -/
section
variable {W : Addr} {S : SO} {Q : KD} {E : EK} {ts : List Str} {es : List (Str × Str)} {rs : List (List Str)}
end
theorem RoadOk.mono {ps : List Str} {ts ts' : List (Str × Str)} {r : List Str} (h : ∀ t ∈ ts, t ∈ ts') (R : RoadOk ps ts r) : RoadOk ps ts' r := ⟨R.ne, R.nd, R.sub, fun i a b h1 h2 => h _ (R.step i a b h1 h2)⟩
end
section
open PySem PySem.Spec PyProof.Rows
theorem NetI.add {ts : List Str} {ls : List (Nat × Nat)} (N : NetI ts ls) {a b : Nat} (ha : a < ts.length) (hb : b < ts.length) (hab : a ≠ b) (hm : (a, b) ∉ ls) (hl : ls.length < 200) : NetI ts (ls ++ [(a, b)]) := by
  refine ⟨N.nm, N.pos, N.few, fun t ht => ?_, ?_, by rw [List.length_append, List.length_singleton]; omega⟩
  · rcases List.mem_append.mp ht with ht | ht
    · exact N.ok t ht
    · rw [List.mem_singleton.mp ht]
      exact ⟨ha, hb, hab⟩
  · exact List.nodup_append.mpr ⟨N.nd, by simp, fun u hu v hv e => hm (by rw [List.mem_singleton] at hv; rw [← hv, ← e]; exact hu)⟩
end
end L2.DL
namespace L2.DL
open PySem PySem.Spec PyProof.Rows
/-! ### a net under other numbers, and turned -/
abbrev oT (os : List Nat) (t : Nat × Nat) : Nat × Nat := (os.getD t.1 0, os.getD t.2 0)
abbrev swT (t : Nat × Nat) : Nat × Nat := (t.2, t.1)
theorem NetI.back {ts : List Str} {ls : List (Nat × Nat)} (N : NetI ts ls) : NetI ts (ls.map swT) := by
  refine ⟨N.nm, N.pos, N.few, fun t ht => ?_, nodup_map_on (fun a _ b _ e => ?_) N.nd, by rw [List.length_map]; exact N.lfew⟩
  · obtain ⟨u, hu, rfl⟩ := List.mem_map.mp ht
    obtain ⟨h1, h2, h3⟩ := N.ok u hu
    exact ⟨h2, h1, fun e => h3 e.symm⟩
  · obtain ⟨a1, a2⟩ := a
    obtain ⟨b1, b2⟩ := b
    cases e
    rfl
section
variable {n : Nat} {os : List Nat} (hp : os.Perm (List.range n))
include hp
theorem os_len : os.length = n := by rw [hp.length_eq, List.length_range]
theorem os_nd : os.Nodup := hp.nodup_iff.mpr List.nodup_range
theorem os_get {v : Nat} (hv : v < n) : os[v]? = some (os.getD v 0) := by
  have : v < os.length := by rw [os_len hp]; exact hv
  rw [List.getD_eq_getElem?_getD, List.getElem?_eq_getElem this]
  rfl
theorem os_lt {v : Nat} (hv : v < n) : os.getD v 0 < n := List.mem_range.mp (hp.mem_iff.mp (List.mem_of_getElem? (os_get hp hv)))
theorem os_inj {u v : Nat} (hu : u < n) (hv : v < n) (e : os.getD u 0 = os.getD v 0) : u = v := nodup_ix (os_nd hp) (os_get hp hu) (e ▸ os_get hp hv)
theorem NetI.mv {ts ts2 : List Str} {ls : List (Nat × Nat)} (N : NetI ts ls) (e : ts.length = n) (e2 : ts2.length = n) (h2 : NamesOk ts2) : NetI ts2 (ls.map (oT os)).reverse := by
  have hp0 := N.pos
  have hf := N.few
  refine ⟨h2, by omega, by omega, fun t ht => ?_, ?_, by rw [List.length_reverse, List.length_map]; exact N.lfew⟩
  · obtain ⟨u, hu, rfl⟩ := List.mem_map.mp (List.mem_reverse.mp ht)
    obtain ⟨h1, h2, h3⟩ := N.ok u hu
    rw [e] at h1 h2
    rw [e2]
    exact ⟨os_lt hp h1, os_lt hp h2, fun e => h3 (os_inj hp h1 h2 e)⟩
  · refine (List.reverse_perm _).nodup_iff.mpr (nodup_map_on (fun a ha b hb e3 => ?_) N.nd)
    obtain ⟨a1, a2, _⟩ := N.ok a ha
    obtain ⟨b1, b2, _⟩ := N.ok b hb
    rw [e] at a1 a2 b1 b2
    obtain ⟨x, y⟩ := a
    obtain ⟨z, w⟩ := b
    injection e3 with f1 f2
    have := os_inj hp a1 b1 f1
    have := os_inj hp a2 b2 f2
    simp_all
end
end L2.DL

namespace L2.DL
open PySem PySem.Spec PyProof.Rows
/-! ### ties that lead on, without those that close a ring; the longest roads of these, as mathematics -/
inductive Rch (P : List (Str × Str)) (a : Str) : Str → Prop where
  | one {b : Str} (h : (a, b) ∈ P) : Rch P a b
  | step {b c : Str} (h : Rch P a b) (t : (b, c) ∈ P) : Rch P a c
theorem Rch.trans {P : List (Str × Str)} {a b c : Str} (h : Rch P a b) (g : Rch P b c) : Rch P a c := by
  induction g with
  | one t => exact .step h t
  | step _ t ih => exact .step ih t
theorem Rch.mono {P P' : List (Str × Str)} {a b : Str} (s : ∀ t ∈ P, t ∈ P') (h : Rch P a b) : Rch P' a b := by
  induction h with
  | one t => exact .one (s _ t)
  | step _ t ih => exact .step ih (s _ t)
theorem Rch.head {P : List (Str × Str)} {a b c : Str} (t : (a, b) ∈ P) (h : Rch P b c) : Rch P a c := (Rch.one t).trans h
def Acyc (P : List (Str × Str)) : Prop := ∀ v, ¬ Rch P v v
/-! ### how many places a road has that ends there -/
section
variable {P : List (Str × Str)} {ps : List Str} (ac : Acyc P) (hp : ∀ t ∈ P, t.1 ∈ ps ∧ t.2 ∈ ps)
include ac hp
end
/-! ### rounds of relaxing -/
/-! ### the dict from places to numbers -/
end L2.DL

namespace L2.DL
open PySem PySem.Spec PyProof.Rows
/-! ### two nets side by side -/
abbrev loN (n : Nat) (v : Nat) : Bool := decide (v < n)
abbrev hiN (n : Nat) (v : Nat) : Bool := !decide (v < n)
abbrev shT (n : Nat) (t : Nat × Nat) : Nat × Nat := (t.1 + n, t.2 + n)
def GoF (n : Nat) (r : List Nat) : Prop := ∀ (i a b : Nat), r[i]? = some a → r[i + 1]? = some b → n ≤ a → n ≤ b
theorem GoF.tail {n x : Nat} {r : List Nat} (h : GoF n (x :: r)) : GoF n r := fun i a b h1 h2 => h (i + 1) a b (by simpa using h1) (by simpa using h2)
theorem GoF.far {n : Nat} : ∀ {r : List Nat} {x : Nat}, GoF n (x :: r) → n ≤ x → ∀ y ∈ r, n ≤ y
  | [], _, _, _ => fun y hy => by cases hy
  | z :: r, x, h, hx => by
    have hz := h 0 x z rfl rfl hx
    intro y hy
    rcases List.mem_cons.mp hy with rfl | hy
    · exact hz
    · exact GoF.far h.tail hz y hy
theorem GoF.split {n : Nat} : ∀ {r : List Nat}, GoF n r → r = r.filter (loN n) ++ r.filter (hiN n)
  | [], _ => rfl
  | x :: r, h => by
    by_cases hx : x < n
    · rw [List.filter_cons_of_pos (by simp [hx]), List.filter_cons_of_neg (by simp [hx]), List.cons_append, ← GoF.split h.tail]
    · have hf := h.far (by omega)
      rw [List.filter_cons_of_neg (by simp [hx]), List.filter_cons_of_pos (by simp [hx])]
      have e : r.filter (loN n) = [] := List.filter_eq_nil_iff.mpr fun y hy => by
        have := hf y hy
        simp
        omega
      rw [e, List.nil_append]
      have e2 : r.filter (hiN n) = r := List.filter_eq_self.mpr fun y hy => by
        have := hf y hy
        simp
        omega
      rw [e2]
section
variable {n m : Nat} {l1 l2 lb : List (Nat × Nat)}
/-- ties within, and from the first to the second -/
structure Side (n m : Nat) (l1 l2 L : List (Nat × Nat)) : Prop where
  lo : ∀ t ∈ L, t.1 < n → t.2 < n → t ∈ l1
  hi : ∀ t ∈ L, n ≤ t.1 → n ≤ t.2 ∧ (t.1 - n, t.2 - n) ∈ l2
variable {L : List (Nat × Nat)} (sd : Side n m l1 l2 L)
include sd
theorem Side.go {r : List Nat} (R : RoadI (n + m) L r) : GoF n r := fun i a b h1 h2 h => (sd.hi _ (R.path i a b h1 h2) h).1
theorem Side.rowA {r : List Nat} (R : RoadI (n + m) L r) (ne : r.filter (loN n) ≠ []) : RoadI n l1 (r.filter (loN n)) := by
  have e := GoF.split (sd.go R)
  refine ⟨ne, List.filter_sublist.nodup R.nd, fun v hv => of_decide_eq_true (List.mem_filter.mp hv).2, fun i a b ha hb => ?_⟩
  have h1 : r[i]? = some a := by
    rw [e, List.getElem?_append_left (List.getElem?_eq_some_iff.mp ha).1]
    exact ha
  have h2 : r[i + 1]? = some b := by
    rw [e, List.getElem?_append_left (List.getElem?_eq_some_iff.mp hb).1]
    exact hb
  exact sd.lo _ (R.path i a b h1 h2) (of_decide_eq_true (List.mem_filter.mp (List.mem_of_getElem? ha)).2) (of_decide_eq_true (List.mem_filter.mp (List.mem_of_getElem? hb)).2)
end
section
variable {n m : Nat} {l1 l2 L : List (Nat × Nat)} (sd : Side n m l1 l2 L)
include sd
end
/-! ### put side by side -/
section
variable {n m : Nat} {l1 l2 : List (Nat × Nat)} (k1 : ∀ t ∈ l1, t.1 < n ∧ t.2 < n) (k2 : ∀ t ∈ l2, t.1 < m ∧ t.2 < m)
include k1 k2
end
/-! ### by names -/
theorem NamesOk.sub {ts us : List Str} (h : us.Sublist ts) (N : NamesOk ts) : NamesOk us := ⟨fun x hx => N.1 x (h.mem hx), h.nodup N.2⟩
theorem NetI.join {A B : List Str} {l1 l2 : List (Nat × Nat)} (nm : NamesOk (A ++ B)) (N1 : NetI A l1) (N2 : NetI B l2) (hs : A.length + B.length ≤ 40) (hl : l1.length + l2.length ≤ 200) : NetI (A ++ B) (l1 ++ l2.map (shT A.length)) := by
  have := N1.pos
  refine ⟨nm, by rw [List.length_append]; omega, by rw [List.length_append]; omega, fun t ht => ?_, ?_, by rw [List.length_append, List.length_map]; omega⟩
  · rw [List.length_append]
    rcases List.mem_append.mp ht with ht | ht
    · obtain ⟨h1, h2, h3⟩ := N1.ok t ht
      exact ⟨by omega, by omega, h3⟩
    · obtain ⟨u, hu, rfl⟩ := List.mem_map.mp ht
      obtain ⟨h1, h2, h3⟩ := N2.ok u hu
      exact ⟨by simp only; omega, by simp only; omega, by simp only; omega⟩
  · refine List.nodup_append.mpr ⟨N1.nd, nodup_map_on (fun a _ b _ e => ?_) N2.nd, fun x hx y hy e => ?_⟩
    · injection e with f1 f2
      exact Prod.ext (by omega) (by omega)
    · obtain ⟨u, hu, rfl⟩ := List.mem_map.mp hy
      have := (N1.ok x hx).1
      rw [e] at this
      simp only at this
      omega
/-- all ties from the first to the second -/
def btw (n m : Nat) : List (Nat × Nat) := ((List.range n).map fun a => (List.range m).map fun b => (a, n + b)).flatten
theorem mem_btw {n m : Nat} (t : Nat × Nat) : t ∈ btw n m ↔ t.1 < n ∧ n ≤ t.2 ∧ t.2 < n + m := by
  unfold btw
  constructor
  · intro h
    obtain ⟨r, hr, h⟩ := List.mem_flatten.mp h
    obtain ⟨a, ha, rfl⟩ := List.mem_map.mp hr
    obtain ⟨b, hb, rfl⟩ := List.mem_map.mp h
    have := List.mem_range.mp ha
    have := List.mem_range.mp hb
    exact ⟨by simpa, by simp, by simpa⟩
  · rintro ⟨h1, h2, h3⟩
    refine List.mem_flatten.mpr ⟨_, List.mem_map.mpr ⟨t.1, List.mem_range.mpr h1, rfl⟩, List.mem_map.mpr ⟨t.2 - n, List.mem_range.mpr (by omega), ?_⟩⟩
    exact Prod.ext rfl (by simp only; omega)
theorem btw_succ (n m k : Nat) : ((List.range (k + 1)).map fun a => (List.range m).map fun b => (a, n + b)).flatten = ((List.range k).map fun a => (List.range m).map fun b => (a, n + b)).flatten ++ (List.range m).map fun b => (k, n + b) := by
  rw [List.range_succ, List.map_append, List.flatten_append]
  simp
theorem btw_nd {n m : Nat} : ∀ k : Nat, (((List.range k).map fun a => (List.range m).map fun b => (a, n + b)).flatten).Nodup
  | 0 => List.nodup_nil
  | k + 1 => by
    rw [btw_succ]
    refine List.nodup_append.mpr ⟨btw_nd k, nodup_map_on (fun a _ b _ e => by injection e; omega) List.nodup_range, fun x hx y hy e => ?_⟩
    obtain ⟨r, hr, h⟩ := List.mem_flatten.mp hx
    obtain ⟨a, ha, rfl⟩ := List.mem_map.mp hr
    obtain ⟨b, hb, rfl⟩ := List.mem_map.mp h
    obtain ⟨c, hc, rfl⟩ := List.mem_map.mp hy
    have := List.mem_range.mp ha
    injection e
    omega
theorem btw_len {n m : Nat} : ∀ k : Nat, (((List.range k).map fun a => (List.range m).map fun b => (a, n + b)).flatten).length = k * m
  | 0 => by simp
  | k + 1 => by
    rw [btw_succ, List.length_append, btw_len k, List.length_map, List.length_range, Nat.add_mul, Nat.one_mul]
theorem NetI.met {A B : List Str} {l1 l2 : List (Nat × Nat)} (N : NetI (A ++ B) (l1 ++ l2.map (shT A.length))) (k1 : ∀ t ∈ l1, t.1 < A.length ∧ t.2 < A.length) (hl : l1.length + l2.length + A.length * B.length ≤ 200) : NetI (A ++ B) (l1 ++ l2.map (shT A.length) ++ btw A.length B.length) := by
  refine ⟨N.nm, N.pos, N.few, fun t ht => ?_, ?_, ?_⟩
  · rcases List.mem_append.mp ht with ht | ht
    · exact N.ok t ht
    · have := (mem_btw t).mp ht
      rw [List.length_append]
      omega
  · refine List.nodup_append.mpr ⟨N.nd, btw_nd _, fun x hx y hy e => ?_⟩
    have h := (mem_btw y).mp hy
    subst e
    rcases List.mem_append.mp hx with hx | hx
    · have := k1 x hx
      omega
    · obtain ⟨u, hu, rfl⟩ := List.mem_map.mp hx
      simp only at h
      omega
  · have := btw_len (n := A.length) (m := B.length) A.length
    rw [List.length_append, List.length_append, List.length_map]
    unfold btw
    omega
end L2.DL

namespace L2.DL
open PySem PySem.Spec PyProof.Rows
/-! ### begins and ends that touch all ties, as few as the pairs -/
section
variable {nx : List (List Nat)} {bg en : List (Option Nat)} {A C : Nat → Prop}
variable {seen clo met wait : List Nat} {h e : Nat}
end
end L2.DL

namespace L2.DL
local macro_rules | `(tactic| and_intros) => `(tactic| repeat (first | with_reducible refine xInt ?_ | with_reducible refine iModL ?_ | with_reducible refine xMakeF ?_ | with_reducible refine xSubD ?_ | with_reducible refine xGTl ?_ | with_reducible refine fldRow ?_ | with_reducible refine fldPairs ?_ | with_reducible refine fldMarks ?_ | with_reducible refine mthTie ?_ | with_reducible refine hasTie ?_ | with_reducible refine chkWeb ?_ | with_reducible refine isiTup ?_ | with_reducible refine isiTf ?_ | with_reducible refine isiStr ?_ | with_reducible refine v0 ?_ | with_reducible refine vS ?_ | with_reducible refine xC ?_ | with_reducible refine xCons ?_ | with_reducible refine xNil ?_ | with_reducible refine xO ?_ | with_reducible refine xCall ?_ | with_reducible refine xSeq ?_ | with_reducible refine xAsg ?_ | with_reducible refine g0 ?_ | with_reducible refine gSu ?_ | with_reducible refine xNext ?_ | with_reducible refine xRet ?_ | with_reducible refine xIfS ?_ | with_reducible refine xB ?_ | with_reducible refine isT ?_ | with_reducible refine isF ?_ | with_reducible refine isT' ?_ | with_reducible refine isF' ?_ | with_reducible refine iT ?_ | with_reducible refine iF ?_ | with_reducible refine iNT ?_ | with_reducible refine iNF ?_ | with_reducible refine xAnd ?_ | with_reducible refine xOr ?_ | with_reducible refine xNot ?_ | with_reducible refine xAndV ?_ | with_reducible refine xOrV ?_ | with_reducible refine xNotV ?_ | with_reducible refine xIf ?_ | with_reducible refine xCh ?_ | with_reducible refine xYes ?_ | with_reducible refine iAdd ?_ | with_reducible refine iSub ?_ | with_reducible refine iAnd ?_ | with_reducible refine iOr ?_ | with_reducible refine iLt ?_ | with_reducible refine iLe ?_ | with_reducible refine iGt ?_ | with_reducible refine iGe ?_ | with_reducible refine iEq ?_ | with_reducible refine iNe ?_ | with_reducible refine sEq ?_ | with_reducible refine sNe ?_ | with_reducible refine iNeg ?_ | with_reducible refine isN1 ?_ | with_reducible refine isN2 ?_ | with_reducible refine noN2 ?_ | with_reducible refine xLen ?_ | with_reducible refine lTupM ?_ | with_reducible refine lTfM ?_ | with_reducible refine lLstM ?_ | with_reducible refine lSrcM ?_ | with_reducible refine lTup ?_ | with_reducible refine lTf ?_ | with_reducible refine lLst ?_ | with_reducible refine lSrc ?_ | with_reducible refine lDic ?_ | with_reducible refine xAllM ?_ | with_reducible refine xAnyM ?_ | with_reducible refine xAll ?_ | with_reducible refine xFnC ?_ | with_reducible refine xFld ?_ | with_reducible refine xMth ?_ | with_reducible refine xSeqI ?_ | with_reducible refine sTup ?_ | with_reducible refine sTf ?_ | with_reducible refine sLst ?_ | with_reducible refine sSrc ?_ | with_reducible refine xEnum ?_ | with_reducible refine one1 ?_ | with_reducible refine xRng1 ?_ | with_reducible refine xRng2 ?_ | with_reducible refine int1' ?_ | with_reducible refine int2' ?_ | with_reducible refine xFor ?_ | with_reducible refine xTup ?_ | with_reducible refine xTupF ?_ | with_reducible refine xLst ?_ | with_reducible refine xNew ?_ | with_reducible refine xU ?_ | with_reducible refine xDrop ?_ | with_reducible refine xRetN ?_ | with_reducible refine xBreak ?_ | with_reducible refine xCont ?_ | with_reducible refine xStar ?_ | with_reducible refine gTup ?_ | with_reducible refine gCons ?_ | with_reducible refine gNil ?_ | with_reducible refine xSl ?_ | with_reducible refine pN ?_ | with_reducible refine pS ?_ | with_reducible refine isI1 ?_ | with_reducible refine slTup ?_ | with_reducible refine slSrc ?_ | with_reducible refine slLst ?_ | with_reducible refine xPar ?_ | with_reducible refine xPar3 ?_ | with_reducible refine two2' ?_ | with_reducible refine three' ?_ | with_reducible refine xBM ?_ | with_reducible refine bmLst ?_ | with_reducible refine bmSrc ?_ | with_reducible refine tfL ?_ | with_reducible refine tuL ?_ | with_reducible refine tuT ?_ | with_reducible refine xRevU ?_ | with_reducible refine revTup ?_ | with_reducible refine revTf ?_ | with_reducible refine xDicF ?_ | with_reducible refine xLcF ?_ | with_reducible refine xLcN ?_ | with_reducible refine xZip ?_ | with_reducible refine xCl ?_ | with_reducible refine andL (by with_unfolding_all exact lez rfl) ?_))
section
open PySem PySem.Spec PyProof.Rows
/-! ### sets of places as numbers -/
def msk (r : List Nat) : Nat := r.foldl (fun m i => m ||| 2 ^ i) 0
/-! ### entries of dicts -/
end
section
open PySem PySem.Spec PyProof.Rows
section
variable {α : Type} {wi : WI} {nt : NT} {tt : WT} {wk we : WE} {vs : List Nat} {sd : SD} {S : SO} {Q : KD}
end
end
section
open PySem PySem.Spec PyProof.Rows
/-! ### ways: where each leads -/
noncomputable def rchB (nx : List (List Nat)) (i j : Nat) : Bool := @decide (Reach nx i j) (Classical.propDecidable _)
noncomputable def truL (nx : List (List Nat)) : List (List Bool) := (List.range nx.length).map fun i => (List.range nx.length).map (rchB nx i)
abbrev blL (r : List Bool) : D := .lst (r.map D.bl)
noncomputable abbrev truD (nx : List (List Nat)) : D := .lst ((truL nx).map blL)
instance : InjD D.bl := ⟨fun _ _ h => by injection h⟩
end
section
open PySem PySem.Spec PyProof.Rows
/-! ### knots: places that lead to each other -/
noncomputable def samB (nx : List (List Nat)) (i j : Nat) : Bool := rchB nx i j && rchB nx j i
/-- all of b's knot -/
noncomputable def clsL (nx : List (List Nat)) (b : Nat) : List Nat := (List.range nx.length).filter (samB nx b)
/-- b is the least of its knot -/
noncomputable def fstB (nx : List (List Nat)) (b : Nat) : Bool := (List.range b).all fun j => !samB nx j b
noncomputable def knotsTo (nx : List (List Nat)) (i : Nat) : List (List Nat) := ((List.range i).filter (fstB nx)).map (clsL nx)
noncomputable abbrev knotsL (nx : List (List Nat)) : List (List Nat) := knotsTo nx nx.length
end
section
open PySem PySem.Spec PyProof.Rows
/-! ### which knot leads to which -/
end
section
open PySem PySem.Spec PyProof.Rows
end
section
open PySem PySem.Spec PyProof.Rows
end
section
open PySem PySem.Spec PyProof.Rows
end
section
open PySem PySem.Spec PyProof.Rows
/-! ### roads from their begins -/
end
section
open PySem PySem.Spec PyProof.Rows
end
section
open PySem PySem.Spec PyProof.Rows
end
section
open PySem PySem.Spec PyProof.Rows
/-! ### known webs, as mathematics -/
end
section
open PySem PySem.Spec PyProof.Rows
theorem xSortSetI {we : WE} {sd : SD} {S : SO} {Q : KD} (h : we sd S fun x S1 => ∃ ss : List Int, lstX S1 x = some (ss.map D.int) ∧ ss.length ≤ 4000 ∧ ∀ ss' : List Int, ss'.Nodup → ss'.Pairwise (· ≤ ·) → (∀ k, k ∈ ss' ↔ k ∈ ss) → Q (.lst (ss'.map D.int)) S1) : wSortSetI we sd S Q := h
end
end L2.DL
namespace L2.DL
local macro_rules | `(tactic| and_intros) => `(tactic| repeat (first | with_reducible refine xInt ?_ | with_reducible refine iModL ?_ | with_reducible refine xMakeF ?_ | with_reducible refine xSubD ?_ | with_reducible refine fldRow ?_ | with_reducible refine fldPairs ?_ | with_reducible refine fldMarks ?_ | with_reducible refine mthTie ?_ | with_reducible refine hasTie ?_ | with_reducible refine chkWeb ?_ | with_reducible refine isiTup ?_ | with_reducible refine isiTf ?_ | with_reducible refine isiStr ?_ | with_reducible refine v0 ?_ | with_reducible refine vS ?_ | with_reducible refine xC ?_ | with_reducible refine xCons ?_ | with_reducible refine xNil ?_ | with_reducible refine xO ?_ | with_reducible refine xCall ?_ | with_reducible refine xSeq ?_ | with_reducible refine xAsg ?_ | with_reducible refine g0 ?_ | with_reducible refine gSu ?_ | with_reducible refine xNext ?_ | with_reducible refine xRet ?_ | with_reducible refine xIfS ?_ | with_reducible refine xB ?_ | with_reducible refine isT ?_ | with_reducible refine isF ?_ | with_reducible refine isT' ?_ | with_reducible refine isF' ?_ | with_reducible refine iT ?_ | with_reducible refine iF ?_ | with_reducible refine iNT ?_ | with_reducible refine iNF ?_ | with_reducible refine xAnd ?_ | with_reducible refine xOr ?_ | with_reducible refine xNot ?_ | with_reducible refine xAndV ?_ | with_reducible refine xOrV ?_ | with_reducible refine xNotV ?_ | with_reducible refine xIf ?_ | with_reducible refine xCh ?_ | with_reducible refine xYes ?_ | with_reducible refine iAdd ?_ | with_reducible refine iSub ?_ | with_reducible refine iAnd ?_ | with_reducible refine iOr ?_ | with_reducible refine iLt ?_ | with_reducible refine iLe ?_ | with_reducible refine iGt ?_ | with_reducible refine iGe ?_ | with_reducible refine iEq ?_ | with_reducible refine iNe ?_ | with_reducible refine sEq ?_ | with_reducible refine sNe ?_ | with_reducible refine iNeg ?_ | with_reducible refine isN1 ?_ | with_reducible refine isN2 ?_ | with_reducible refine noN2 ?_ | with_reducible refine xLen ?_ | with_reducible refine lTupM ?_ | with_reducible refine lTfM ?_ | with_reducible refine lLstM ?_ | with_reducible refine lSrcM ?_ | with_reducible refine lTup ?_ | with_reducible refine lTf ?_ | with_reducible refine lLst ?_ | with_reducible refine lSrc ?_ | with_reducible refine lDic ?_ | with_reducible refine xAllM ?_ | with_reducible refine xAnyM ?_ | with_reducible refine xAll ?_ | with_reducible refine xFnC ?_ | with_reducible refine xFld ?_ | with_reducible refine xMth ?_ | with_reducible refine xSeqI ?_ | with_reducible refine sTup ?_ | with_reducible refine sTf ?_ | with_reducible refine sLst ?_ | with_reducible refine sSrc ?_ | with_reducible refine xEnum ?_ | with_reducible refine one1 ?_ | with_reducible refine xRng1 ?_ | with_reducible refine xRng2 ?_ | with_reducible refine int1' ?_ | with_reducible refine int2' ?_ | with_reducible refine xFor ?_ | with_reducible refine xTup ?_ | with_reducible refine xTupF ?_ | with_reducible refine xLst ?_ | with_reducible refine xNew ?_ | with_reducible refine xU ?_ | with_reducible refine xDrop ?_ | with_reducible refine xRetN ?_ | with_reducible refine xBreak ?_ | with_reducible refine xCont ?_ | with_reducible refine xStar ?_ | with_reducible refine gTup ?_ | with_reducible refine gCons ?_ | with_reducible refine gNil ?_ | with_reducible refine xSl ?_ | with_reducible refine pN ?_ | with_reducible refine pS ?_ | with_reducible refine isI1 ?_ | with_reducible refine slTup ?_ | with_reducible refine slSrc ?_ | with_reducible refine slLst ?_ | with_reducible refine xPar ?_ | with_reducible refine xPar3 ?_ | with_reducible refine two2' ?_ | with_reducible refine three' ?_ | with_reducible refine xBM ?_ | with_reducible refine bmLst ?_ | with_reducible refine bmSrc ?_ | with_reducible refine tfL ?_ | with_reducible refine tuL ?_ | with_reducible refine tuT ?_ | with_reducible refine xRevU ?_ | with_reducible refine revTup ?_ | with_reducible refine revTf ?_ | with_reducible refine xDicF ?_ | with_reducible refine xLcF ?_ | with_reducible refine xLcN ?_ | with_reducible refine xZip ?_ | with_reducible refine xCl ?_ | with_reducible refine andL (by with_unfolding_all exact lez rfl) ?_))
section
open PySem PySem.Spec PyProof.Rows
/-! ### comes_to: whether ties in a dict of lists lead on to a place -/
section
variable {P : List (Str × Str)} {ps : List Str} {b e : Str} {sn wt : List Str}
end
end
section
open PySem PySem.Spec PyProof.Rows
/-! ### many lists of names, each an object, in a dict -/
section
variable {α : Type} {sd : SD} {S : SO} {R : Addr → SO → Prop} {nt : NT} {wk we : WE} {vs : List Nat}
end
/-! ### ringless_part -/
end
section
open PySem PySem.Spec PyProof.Rows
/-! ### colours_by, colouring -/
/-! ### colouring -/
end
section
open PySem PySem.Spec PyProof.Rows
/-! ### long_road -/
end
section
open PySem PySem.Spec PyProof.Rows
/-! ### the law's own walk: reaches, part, colours -/
theorem Rch.last {P : List (Str × Str)} {a b : Str} (h : Rch P a b) : b ∈ P.map (·.2) := by
  cases h with
  | one t => exact List.mem_map.mpr ⟨_, t, rfl⟩
  | step _ t => exact List.mem_map.mpr ⟨_, t, rfl⟩
section
variable {P : List (Str × Str)} {a : Str} {k : Nat} {row : List Str}
end
end
section
open PySem PySem.Spec PyProof.Rows
/-! ### k15 -/
end
section
open PySem PySem.Spec PyProof.Rows
/-! ### is_colouring of any value, by the program and by the law -/
def isInt : D → Bool
  | .int _ => true
  | _ => false
def isBl : D → Bool
  | .bl _ => true
  | _ => false
def posB : D → Bool
  | .int i => decide (0 < i)
  | _ => false
theorem isiIntA {m : Nat} {d : D} {S : SO} {Q : KD} (hd : Any m d) (h : Q (.bl (isInt d || isBl d)) S) : cIsi (.ty "int") (fTy "int" []) [d, .ty "int"] S Q := by
  cases hd <;> exact ⟨rfl, _, _, rfl, rfl, h⟩
theorem isiBlA {m : Nat} {d : D} {S : SO} {Q : KD} (hd : Any m d) (h : Q (.bl (isBl d)) S) : cIsi (.ty "bool") (fTy "bool" []) [d, .ty "bool"] S Q := by
  cases hd <;> exact ⟨rfl, _, _, rfl, rfl, h⟩
def sp_is_integerA (W : Addr) : DSp := fun ds S Q E => ∃ (m : Nat) (d : D), ds = [d] ∧ Any m d ∧ Q (.bl (isInt d)) S
def w_is_integerA (W : Addr) : WS := (wRet (wAndV (wCall (cIsi (.ty "int") (fTy "int" [])) (wCons (wV 0) (wCons (wC (.ty "int")) wNil))) (wNotV (wCall (cIsi (.ty "bool") (fTy "bool" [])) (wCons (wV 0) (wCons (wC (.ty "bool")) wNil))))))
theorem pure_is_integerA (W : Addr) : ∀ ds S Q E, sp_is_integerA W ds S Q E → w_is_integerA W (endsOf Q) (startD ["value"] ds) S := by
  rintro ds S Q E ⟨m, d, rfl, A, q⟩
  refine xFn ?_
  show w_is_integerA W _ [some _] S
  unfold w_is_integerA
  and_intros
  refine isiIntA A ?_
  and_intros
  refine isCB (fun h => ?_) (fun h => ?_)
  · and_intros
    refine isiBlA A ?_
    and_intros
    have e : (!isBl d) = isInt d := by cases A <;> first | rfl | cases h
    rw [← e] at q
    cases hb : isBl d
    · rw [hb] at q
      exact isNB rfl (cl q)
    · rw [hb] at q
      exact isYB rfl (cl q)
  · have e : isInt d = false := by
      cases e : isInt d
      · rfl
      · rw [e] at h; cases h
    rw [e] at q
    exact cl q
/-- the colours by the names -/
def clrK (ps : List Str) (ns : List Int) : List (D × D) := (ps.map D.str).zip (ns.map D.int)
noncomputable def apartK (K : List (D × D)) (t : Str × Str) : Bool := match dget K (.str t.1), dget K (.str t.2) with
  | some (.int i), some (.int j) => decide (i ≠ j)
  | _, _ => false
def IsClr (ps : List Str) (ts : List (Str × Str)) (d : D) : Prop := ∃ ns : List Int, asTup d = some (ns.map D.int) ∧ ns.length = ps.length ∧ (∀ n ∈ ns, 0 < n) ∧ ∀ t ∈ ts, apartK (clrK ps ns) t = true
theorem clrK_get : ∀ {ps : List Str} {ns : List Int} {p : Str}, ns.length = ps.length → p ∈ ps → ∃ i : Int, dget (clrK ps ns) (.str p) = some (.int i)
  | [], _, _, _, h => by cases h
  | q :: ps, [], _, h, _ => by cases h
  | q :: ps, n :: ns, p, hl, h => by
    show ∃ i : Int, dget ((D.str q, D.int n) :: clrK ps ns) (.str p) = some (.int i)
    rw [dget_cons]
    by_cases e : q = p
    · rw [if_pos (by rw [e])]
      exact ⟨n, rfl⟩
    · rw [if_neg fun z => e (strD_inj z)]
      exact clrK_get (by simpa using hl) ((List.mem_cons.mp h).resolve_left fun z => e z.symm)
theorem clrK_keys {ps : List Str} {ns : List Int} (hl : ns.length = ps.length) : (clrK ps ns).map (·.1) = ps.map D.str := by
  unfold clrK
  rw [List.map_fst_zip]
  rw [List.length_map, List.length_map]
  omega
theorem clrK_put {ps : List Str} {ns : List Int} (nd : ps.Nodup) (hl : ns.length = ps.length) : dputsL [] (clrK ps ns) = clrK ps ns := by
  have h := dputsL_nodup (kvs := clrK ps ns) (acc := []) (fun _ _ => rfl) (by rw [clrK_keys hl]; exact nodup_map (fun a b e => strD_inj e) nd)
  rwa [List.nil_append] at h
theorem all_pos : ∀ {xs : List D}, xs.all posB = true → ∃ ns : List Int, xs = ns.map D.int ∧ ∀ n ∈ ns, 0 < n
  | [], _ => ⟨[], rfl, by simp⟩
  | x :: xs, h => by
    rw [List.all_cons, Bool.and_eq_true] at h
    obtain ⟨ns, rfl, hn⟩ := all_pos h.2
    have h1 := h.1
    cases x with
    | int i =>
      refine ⟨i :: ns, rfl, fun n hm => ?_⟩
      rcases List.mem_cons.mp hm with rfl | hm
      · exact of_decide_eq_true h1
      · exact hn n hm
    | _ => cases h1
theorem pos_all {ns : List Int} (h : ∀ n ∈ ns, 0 < n) : (ns.map D.int).all posB = true := by
  rw [List.all_eq_true]
  intro d hd
  obtain ⟨x, hx, rfl⟩ := List.mem_map.mp hd
  exact decide_eq_true (h x hx)
theorem ints_injk {a b : List Int} (h : a.map D.int = b.map D.int) : a = b := map_inj (f := D.int) h
end
section
open PySem PySem.Spec PyProof.Rows
/-! ### split of what was joined -/
open StrLaws Builtin Builtin.Str in
theorem occ_cnt (x : Str) (c : Nat) : ∀ (m a free : Nat) (found : Array Nat), a + m = x.length + 1 → found.size ≤ a → free ≤ a →
    ((forIn (List.range' a m) (found, free) (occBody x ⟨#[c]⟩ x.length (x.length + 1))).run.fst).size = found.size + (x.cps.toList.drop a).count c
  | 0, a, free, found, h, _, _ => by
    have e : x.cps.toList.drop a = [] := List.drop_eq_nil_of_le (by show x.cps.toList.length ≤ a; have : x.cps.toList.length = x.length := rfl; omega)
    rw [e]
    rfl
  | m + 1, a, free, found, h, hs, hf => by
    rw [List.range'_succ, List.forIn_cons]
    unfold occBody
    by_cases hc : x.cps.toList[a]? = some c
    · have h1 := (subAt_one x c a).mpr hc
      rw [if_pos ⟨⟨⟨by show found.size < _; omega, hf⟩, h1.1⟩, h1.2⟩]
      have ih := occ_cnt x c m (a + 1) (a + (⟨#[c]⟩ : Str).length) (found.push a) (by omega) (by simp; omega) (by show a + 1 ≤ a + 1; exact Nat.le_refl _)
      refine ih.trans ?_
      obtain ⟨hl, e⟩ := List.getElem?_eq_some_iff.mp hc
      rw [List.drop_eq_getElem_cons hl, e, List.count_cons_self, Array.size_push]
      omega
    · rw [if_neg fun z => hc ((subAt_one x c a).mp ⟨z.1.2, z.2⟩)]
      have ih := occ_cnt x c m (a + 1) free found (by omega) (by omega) (by omega)
      refine ih.trans ?_
      by_cases hl : a < x.cps.toList.length
      · rw [List.drop_eq_getElem_cons hl, List.count_cons_of_ne fun e => hc (by rw [List.getElem?_eq_getElem hl, e])]
      · rw [List.drop_eq_nil_of_le (by omega), List.drop_eq_nil_of_le (by omega)]
open StrLaws Builtin Builtin.Str in
theorem occ_count (x : Str) (c : Nat) : (occurrences x ⟨#[c]⟩ 0 x.length (x.length + 1)).length = x.cps.toList.count c := by
  rw [occ_eq, Array.length_toList]
  have := occ_cnt x c (x.length + 1) 0 0 #[] (by omega) (by simp) (Nat.le_refl _)
  simpa using this
theorem flatJ_count (c : Nat) : ∀ xs : List (List Nat), (flatJ c xs).count c = (xs.map (·.count c)).sum + (xs.length - 1)
  | [] => rfl
  | [x] => by
    show x.count c = _
    simp
  | x :: y :: r => by
    have ih := flatJ_count c (y :: r)
    show (x ++ c :: flatJ c (y :: r)).count c = _
    rw [List.count_append, List.count_cons_self, ih]
    simp only [List.map_cons, List.sum_cons, List.length_cons]
    omega
open Builtin Builtin.Str in
theorem split_parts (x : Str) (c : Nat) (hc : c < 256) : Txt.split x ⟨#[c]⟩ ≠ [] ∧ Txt.join ⟨#[c]⟩ (Txt.split x ⟨#[c]⟩) = x ∧ (Txt.split x ⟨#[c]⟩).length = x.cps.toList.count c + 1 := by
  have one : Txt.join ⟨#[c]⟩ [x] = x := by
    have := join_flat ⟨#[c]⟩ c rfl [x]
    exact str_ext this
  unfold Txt.split
  by_cases h1 : (decide (x.length < (⟨#[c]⟩ : Str).length) || decide (Builtin.Str.strKind x < Builtin.Str.strKind ⟨#[c]⟩)) = true
  · rw [if_pos h1]
    have k1 : Builtin.Str.strKind ⟨#[c]⟩ = 1 := by
      unfold Builtin.Str.strKind
      rw [if_pos (by simpa using hc)]
    have k2 : 1 ≤ Builtin.Str.strKind x := by
      unfold Builtin.Str.strKind
      split
      · exact Nat.le_refl _
      · split <;> decide
    rw [k1] at h1
    have hx : x.cps.toList.length = 0 := by
      rcases Bool.or_eq_true_iff.mp h1 with h | h
      · have := of_decide_eq_true h
        have e : (⟨#[c]⟩ : Str).length = 1 := rfl
        rw [e] at this
        show x.length = 0
        omega
      · have := of_decide_eq_true h
        omega
    refine ⟨by simp, one, ?_⟩
    rw [List.length_eq_zero_iff.mp hx]
    rfl
  · rw [if_neg h1]
    by_cases h2 : (occurrences x ⟨#[c]⟩ 0 x.length (x.length + 1)).isEmpty = true
    · rw [if_pos h2]
      refine ⟨by simp, one, ?_⟩
      have := occ_count x c
      rw [List.isEmpty_iff.mp h2] at this
      rw [← this]
      rfl
    · rw [if_neg h2]
      refine ⟨fun e => ?_, StrLaws.glued_between_self x ⟨#[c]⟩ _, ?_⟩
      · have := length_partsBetween x (occurrences x ⟨#[c]⟩ 0 x.length (x.length + 1)) (⟨#[c]⟩ : Str).length
        rw [e] at this
        cases this
      · rw [length_partsBetween, occ_count]
theorem sum_zero : ∀ {l : List Nat}, l.sum = 0 → ∀ x ∈ l, x = 0
  | [], _, x, hx => by cases hx
  | y :: l, h, x, hx => by
    rw [List.sum_cons] at h
    rcases List.mem_cons.mp hx with rfl | hx
    · omega
    · exact sum_zero (by omega) x hx
theorem split_join {c : Nat} (hc : c < 256) {ys : List Str} (hy : ys ≠ []) (hn : ∀ y ∈ ys, c ∉ y.cps.toList) : Txt.split (Txt.join ⟨#[c]⟩ ys) ⟨#[c]⟩ = ys := by
  obtain ⟨h1, h2, h3⟩ := split_parts (Txt.join ⟨#[c]⟩ ys) c hc
  refine join_inj (z := ⟨#[c]⟩) (c := c) rfl h1 hy (fun x hx hm => ?_) hn h2
  have e := congrArg (fun s : Str => s.cps.toList.count c) h2
  have e : (Txt.join ⟨#[c]⟩ (Txt.split (Txt.join ⟨#[c]⟩ ys) ⟨#[c]⟩)).cps.toList.count c = (Txt.join ⟨#[c]⟩ ys).cps.toList.count c := e
  rw [join_flat ⟨#[c]⟩ c rfl (Txt.split (Txt.join ⟨#[c]⟩ ys) ⟨#[c]⟩), flatJ_count, List.length_map] at e
  have z : ((((Txt.split (Txt.join ⟨#[c]⟩ ys) ⟨#[c]⟩).map fun y => y.cps.toList).map fun l => l.count c).sum) = 0 := by omega
  have := sum_zero z (x.cps.toList.count c) (List.mem_map.mpr ⟨_, List.mem_map.mpr ⟨x, hx, rfl⟩, rfl⟩)
  exact List.count_eq_zero.mp this hm
theorem nl_eq : ("\n" : Str) = ⟨#[10]⟩ := str_ext (by decide)
theorem sp_eq : (" " : Str) = ⟨#[32]⟩ := str_ext (by decide)
theorem page_split {ps : List Str} {ts : List (Str × Str)} (ok : WebOk ps ts) : Txt.split (pageOf ps ts) "\n" = linesOf ps ts := by
  unfold pageOf
  rw [nl_eq]
  refine split_join (by decide) (by simp [linesOf, wordsOf]) fun x hx hm => ?_
  obtain ⟨r, hr, rfl⟩ := List.mem_map.mp hx
  rw [join_flat " " 32 (by decide)] at hm
  rcases flatJ_mem hm with e | ⟨w, hw, e⟩
  · cases e
  · obtain ⟨y, hy, rfl⟩ := List.mem_map.mp hw
    have := words_low ok r hr y hy 10 e
    omega
theorem line_split {ps : List Str} {ts : List (Str × Str)} (ok : WebOk ps ts) {r : List Str} (hr : r ∈ wordsOf ps ts) : Txt.split (Txt.join " " r) " " = r := by
  rw [sp_eq]
  refine split_join (by decide) ?_ fun x hx hm => ?_
  · rcases List.mem_cons.mp hr with rfl | hr
    · simp
    · obtain ⟨t, _, rfl⟩ := List.mem_map.mp hr
      simp
  · have := words_low ok r hr x hx 32 hm
    omega
theorem xSplit {wo we : WE} {sd : SD} {S : SO} {Q : KD} (h : wo sd S fun d S1 => (∃ a, d = .str a) ∧ we sd S1 fun e S2 => ∃ a b : Str, d = .str a ∧ e = .str b ∧ (b.length == 0) = false ∧ a.length ≤ 1000000 ∧ Q (.lst ((Txt.split a b).map D.str)) S2) : wSplit wo we sd S Q := h
/-! ### Web.read -/
def sp_Web_read (W : Addr) : DSp := fun ds S Q E => ∃ (ps : List Str) (ts : List (Str × Str)), ds = [.obj W, .str (pageOf ps ts)] ∧ WebOk ps ts ∧ Q (webD W ps ts) S
def w_Web_read (W : Addr) : WS := (wSeq (wAsg (wIf (wB (wCall (cIsi (.ty "str") (fTy "str" [])) (wCons (wV 1) (wCons (wC (.ty "str")) wNil)))) (wLcP (wSeqI (wSplit (wV 1) (wC (.str "\n")))) (.n 5) wYes (wCall cTuple (wCons (wSplit (wV 5) (wC (.str " "))) wNil)) [5]) (wLst (wCons (wTup (wCons (wC (.str "")) wNil)) wNil))) (gV 2))
    (wSeq (wPar 3 4 (wCons (wSlF (wO oIx (wV 2) (wC (.int 0))) (pSome (wC (.int 1))) pNone) (wCons (wCall cTupleF (wCons (wSl (wV 2) (pSome (wC (.int 1))) pNone) wNil)) wNil)))
    (wSeq (wIfS (wOr (wB (wO oNe (wO oIx (wO oIx (wV 2) (wC (.int 0))) (wC (.int 0))) (wC (.str "places")))) (wOr (wB (wO oEqT (wV 3) (wTup wNil))) (wB (wO oNotN (wFn (sp_wrong_place W) [] (wCons (wV 3) wNil)) (wC .non))))) wNever wNext)
    (wSeq (wIfS (wB (wO oNotN (wFn (sp_wrong_tie W) [] (wCons (wV 3) (wCons (wV 4) wNil))) (wC .non))) wNever wNext)
    (wRet (wMakeV W (sp_Web_init W) [] (wV 0) (wCons (wV 3) (wCons (wV 4) wNil))))))))
theorem pure_Web_read (W : Addr) : ∀ ds S Q E, sp_Web_read W ds S Q E → w_Web_read W (endsOf Q) (startD ["cls", "text", "rows", "places", "ties", "row"] ds) S := by
  rintro ds S Q E ⟨ps, ts, rfl, ok, q⟩
  refine xFn ?_
  show w_Web_read W _ [some _, some _, none, none, none, none] S
  unfold w_Web_read
  have few := ok.few
  have tf := ok.tfew
  obtain ⟨lf1, lf2⟩ := lines_few ok
  and_intros
  refine lcM (linesOf ps ts) D.str (fun l => .tup (plD (Txt.split l " "))) (by
    and_intros
    refine xSplit ?_
    and_intros
    refine ⟨⟨_, rfl⟩, ?_⟩
    and_intros
    refine ⟨_, _, rfl, rfl, by decide, Nat.le_trans (page_len ok) (by decide), ?_⟩
    rw [page_split ok]
    refine sLst ?_
    exact srcT) (by omega) (fun l hl S' _ => ?_) ?_
  · (simp only [prD, putNT, wipeD, putAll, List.set_cons_zero, List.set_cons_succ, List.length_cons, List.length_nil, true_and]; and_intros)
    refine xSplit ?_
    and_intros
    refine ⟨⟨_, rfl⟩, ?_⟩
    and_intros
    have := lf2 l hl
    refine ⟨_, _, rfl, rfl, by decide, by omega, ?_⟩
    and_intros
    exact ⟨rfl, rfl⟩
  have e1 : (linesOf ps ts).map (fun l => D.tup (plD (Txt.split l " "))) = (wordsOf ps ts).map fun r => D.tup (plD r) := by
    unfold linesOf
    rw [List.map_map]
    refine List.map_congr_left fun r hr => ?_
    show D.tup (plD (Txt.split (Txt.join " " r) " ")) = _
    rw [line_split ok hr]
  have e2 : (wordsOf ps ts).map (fun r => D.tup (plD r)) = .tup (.str "places" :: plD ps) :: ts.map prD := by
    unfold wordsOf
    rw [List.map_cons, List.map_map]
    rfl
  rw [e1, e2]
  and_intros
  refine xSlF ?_
  and_intros
  refine ixLst at0 ?_
  and_intros
  refine ⟨_, rfl, fun w => ?_, ?_⟩
  · have := (wh_lo (k := 1)).mp w
    rw [List.length_cons] at this
    omega
  rw [show cutD (D.str "places" :: plD ps) (some 1) none = plD ps from cutLo (k := 1)]
  and_intros
  rw [show cutD (D.tup (D.str "places" :: plD ps) :: ts.map prD) (some 1) none = ts.map prD from cutLo (k := 1)]
  and_intros
  refine ixLst at0 ?_
  and_intros
  refine ixTup at0 ?_
  and_intros
  refine isNB (by simp) ?_
  and_intros
  refine ⟨_, rfl, rfl, ?_⟩
  refine isNB (by cases hps : ps with | nil => exact absurd hps ok.ne | cons => rfl) ?_
  and_intros
  refine ⟨ps, rfl, ok.places, ?_⟩
  and_intros
  refine isNB rfl ?_
  and_intros
  refine ⟨ps, ts, rfl, ok.ties, ?_⟩
  and_intros
  refine isNB rfl ?_
  and_intros
  refine xMakeV ?_
  and_intros
  refine ⟨rfl, ?_⟩
  and_intros
  exact mkWeb ok (cl q)
end
section
open PySem PySem.Spec PyProof.Rows
/-! ### k14 -/
end
section
open PySem PySem.Spec PyProof.Rows
/-! ### k13 -/
end
end L2.DL
namespace L2.DL
open PySem PySem.Spec PyProof.Rows
/-! ### before_from, and whom each came from -/
end L2.DL

namespace L2.DL
local macro_rules | `(tactic| and_intros) => `(tactic| repeat (first | with_reducible refine xInt ?_ | with_reducible refine iModL ?_ | with_reducible refine xMakeF ?_ | with_reducible refine xSubD ?_ | with_reducible refine xGTl ?_ | with_reducible refine fldRow ?_ | with_reducible refine fldPairs ?_ | with_reducible refine fldMarks ?_ | with_reducible refine mthTie ?_ | with_reducible refine hasTie ?_ | with_reducible refine chkWeb ?_ | with_reducible refine isiTup ?_ | with_reducible refine isiTf ?_ | with_reducible refine isiStr ?_ | with_reducible refine v0 ?_ | with_reducible refine vS ?_ | with_reducible refine xC ?_ | with_reducible refine xCons ?_ | with_reducible refine xNil ?_ | with_reducible refine xO ?_ | with_reducible refine xCall ?_ | with_reducible refine xSeq ?_ | with_reducible refine xAsg ?_ | with_reducible refine g0 ?_ | with_reducible refine gSu ?_ | with_reducible refine xNext ?_ | with_reducible refine xRet ?_ | with_reducible refine xIfS ?_ | with_reducible refine xB ?_ | with_reducible refine isT ?_ | with_reducible refine isF ?_ | with_reducible refine isT' ?_ | with_reducible refine isF' ?_ | with_reducible refine iT ?_ | with_reducible refine iF ?_ | with_reducible refine iNT ?_ | with_reducible refine iNF ?_ | with_reducible refine xAnd ?_ | with_reducible refine xOr ?_ | with_reducible refine xNot ?_ | with_reducible refine xAndV ?_ | with_reducible refine xOrV ?_ | with_reducible refine xNotV ?_ | with_reducible refine xIf ?_ | with_reducible refine xCh ?_ | with_reducible refine xYes ?_ | with_reducible refine iAdd ?_ | with_reducible refine iSub ?_ | with_reducible refine iAnd ?_ | with_reducible refine iOr ?_ | with_reducible refine iLt ?_ | with_reducible refine iLe ?_ | with_reducible refine iGt ?_ | with_reducible refine iGe ?_ | with_reducible refine iEq ?_ | with_reducible refine iNe ?_ | with_reducible refine sEq ?_ | with_reducible refine sNe ?_ | with_reducible refine iNeg ?_ | with_reducible refine isN1 ?_ | with_reducible refine isN2 ?_ | with_reducible refine noN2 ?_ | with_reducible refine xLen ?_ | with_reducible refine lTupM ?_ | with_reducible refine lTfM ?_ | with_reducible refine lLstM ?_ | with_reducible refine lSrcM ?_ | with_reducible refine lTup ?_ | with_reducible refine lTf ?_ | with_reducible refine lLst ?_ | with_reducible refine lSrc ?_ | with_reducible refine lDic ?_ | with_reducible refine xAllM ?_ | with_reducible refine xAnyM ?_ | with_reducible refine xAll ?_ | with_reducible refine xFnC ?_ | with_reducible refine xFld ?_ | with_reducible refine xMth ?_ | with_reducible refine xSeqI ?_ | with_reducible refine sTup ?_ | with_reducible refine sTf ?_ | with_reducible refine sLst ?_ | with_reducible refine sSrc ?_ | with_reducible refine xEnum ?_ | with_reducible refine one1 ?_ | with_reducible refine xRng1 ?_ | with_reducible refine xRng2 ?_ | with_reducible refine int1' ?_ | with_reducible refine int2' ?_ | with_reducible refine xFor ?_ | with_reducible refine xTup ?_ | with_reducible refine xTupF ?_ | with_reducible refine xLst ?_ | with_reducible refine xNew ?_ | with_reducible refine xU ?_ | with_reducible refine xDrop ?_ | with_reducible refine xRetN ?_ | with_reducible refine xBreak ?_ | with_reducible refine xCont ?_ | with_reducible refine xStar ?_ | with_reducible refine gTup ?_ | with_reducible refine gCons ?_ | with_reducible refine gNil ?_ | with_reducible refine xSl ?_ | with_reducible refine pN ?_ | with_reducible refine pS ?_ | with_reducible refine isI1 ?_ | with_reducible refine slTup ?_ | with_reducible refine slSrc ?_ | with_reducible refine slLst ?_ | with_reducible refine xPar ?_ | with_reducible refine xPar3 ?_ | with_reducible refine two2' ?_ | with_reducible refine three' ?_ | with_reducible refine xBM ?_ | with_reducible refine bmLst ?_ | with_reducible refine bmSrc ?_ | with_reducible refine tfL ?_ | with_reducible refine tuL ?_ | with_reducible refine tuT ?_ | with_reducible refine xRevU ?_ | with_reducible refine revTup ?_ | with_reducible refine revTf ?_ | with_reducible refine xDicF ?_ | with_reducible refine xLcF ?_ | with_reducible refine xLcN ?_ | with_reducible refine xZip ?_ | with_reducible refine xCl ?_ | with_reducible refine andL (by with_unfolding_all exact lez rfl) ?_))
section
open PySem PySem.Spec PyProof.Rows
end
section
open PySem PySem.Spec PyProof.Rows
end
section
open PySem PySem.Spec PyProof.Rows
noncomputable abbrev kRow (nx : List (List Nat)) (r : List Nat) : List Nat := (r.map fun a => (knotsL nx).getD a []).flatten
end
section
open PySem PySem.Spec PyProof.Rows
end
section
open PySem PySem.Spec PyProof.Rows
/-! ### going along ties given by numbers -/
/-! ### the rows and rings -/
end
section
open PySem PySem.Spec PyProof.Rows
theorem getD_mem {ts : List Str} {i : Nat} (h : i < ts.length) : ts.getD i Str.empty ∈ ts := List.mem_of_getElem? (getD_get h)
end
section
open PySem PySem.Spec PyProof.Rows
end
section
open PySem PySem.Spec PyProof.Rows
/-! ### two rings -/
end
section
open PySem PySem.Spec PyProof.Rows
/-! ### layers -/
end
section
open PySem PySem.Spec PyProof.Rows
end
section
open PySem PySem.Spec PyProof.Rows
end
section
open PySem PySem.Spec PyProof.Rows
abbrev tpD (r : List Str) : D := .tup (plD r)
/-! ### places by their names -/
end
section
open PySem PySem.Spec PyProof.Rows
end
section
open PySem PySem.Spec PyProof.Rows
section
variable {α : Type} {sd : SD} {S : SO} {R : Addr → SO → Prop} {nt : NT} {wk we : WE} {vs : List Nat}
end
/-! ### roads by numbers -/
abbrev rdD (r : List Nat) : D := .tup (r.map fun i : Nat => D.int (i : Nat))
abbrev ky1 (m : Nat) : D := .int (m : Nat)
end
section
open PySem PySem.Spec PyProof.Rows
end
section
open PySem PySem.Spec PyProof.Rows
end
section
open PySem PySem.Spec PyProof.Rows
/-! ### partings of all places into roads of a kind, as mathematics -/
end
section
open PySem PySem.Spec PyProof.Rows
section
variable {n : Nat} {G : List Nat → Prop} {t : Nat} {K K' : List (D × D)} {L L' : List Nat}
end
end
section
open PySem PySem.Spec PyProof.Rows
abbrev prR : List Nat → D := fun r => .tup [ky1 (msk r), rdD r]
abbrev pwF : Nat → D := fun i => .int ((2 ^ i : Nat) : Int)
theorem ints_inj {r r' : List Nat} (e : r.map (fun i : Nat => D.int (i : Nat)) = r'.map (fun i : Nat => D.int (i : Nat))) : r = r' := map_inj e
instance : InjD prR := ⟨fun a b e => by
  injection e with e
  injection e with _ e
  injection e with e _
  injection e with e
  exact ints_inj e⟩
instance : InjD pwF := ⟨fun a b e => by
  injection e with e
  have e : 2 ^ a = 2 ^ b := by omega
  exact (Nat.pow_right_inj (by decide)).mp e⟩
end
section
open PySem PySem.Spec PyProof.Rows
/-! ### the functions -/
end
section
open PySem PySem.Spec PyProof.Rows
/-! ### free places -/
/-! ### the functions -/
end
section
open PySem PySem.Spec PyProof.Rows
end
section
open PySem PySem.Spec PyProof.Rows
theorem TupD.as {d : D} {xs : List D} (h : TupD d xs) : asTup d = some xs := by
  rcases h with rfl | rfl <;> rfl
end
section
open PySem PySem.Spec PyProof.Rows
abbrev rwS : List (List Str) → D := fun rs => .tup (rs.map tpD)
instance : InjD rwS := ⟨fun a b e => by
  injection e with e
  exact map_inj e⟩
end
section
open PySem PySem.Spec PyProof.Rows
instance : InjD rdD := ⟨fun a b e => by
  injection e with e
  exact map_inj e⟩
end
section
open PySem PySem.Spec PyProof.Rows
section
variable {ps : List Str} {ts : List (Str × Str)} {nx : List (List Nat)} {G : List Nat → Prop} {C : List Str → Prop}
end
end
section
open PySem PySem.Spec PyProof.Rows
section
variable {ts : List Str} {ls : List (Str × Str)} {F : List (List (List Str))} {C : List Str → Prop} {p : List (List Str) → Bool}
end
end
section
open PySem PySem.Spec PyProof.Rows
section
variable {α : Type} {sd : SD} {S : SO} {R : Addr → SO → Prop} {nt : NT} {tt : WT} {wk we : WE} {vs : List Nat}
end
end
end L2.DL
namespace L2.DL
local macro_rules | `(tactic| and_intros) => `(tactic| repeat (first | with_reducible refine xSeqX ?_ | with_reducible refine xNS ?_ | with_reducible refine xNE ?_ | with_reducible refine xRetX ?_ | with_reducible refine xDropX ?_ | with_reducible refine xSetX ?_ | with_reducible refine xIfSX ?_ | with_reducible refine xIfX ?_ | with_reducible refine xRaise ?_ | with_reducible refine xFnX ?_ | with_reducible refine xFnKX ?_ | with_reducible refine xMthX ?_ | with_reducible refine xTry0 ?_ | with_reducible refine xInt ?_ | with_reducible refine iModL ?_ | with_reducible refine xMakeF ?_ | with_reducible refine xSubD ?_ | with_reducible refine xGTl ?_ | with_reducible refine fldRow ?_ | with_reducible refine fldPairs ?_ | with_reducible refine fldMarks ?_ | with_reducible refine mthTie ?_ | with_reducible refine hasTie ?_ | with_reducible refine chkWeb ?_ | with_reducible refine isiTup ?_ | with_reducible refine isiTf ?_ | with_reducible refine isiStr ?_ | with_reducible refine v0 ?_ | with_reducible refine vS ?_ | with_reducible refine xC ?_ | with_reducible refine xCons ?_ | with_reducible refine xNil ?_ | with_reducible refine xO ?_ | with_reducible refine xCall ?_ | with_reducible refine xSeq ?_ | with_reducible refine xAsg ?_ | with_reducible refine g0 ?_ | with_reducible refine gSu ?_ | with_reducible refine xNext ?_ | with_reducible refine xRet ?_ | with_reducible refine xIfS ?_ | with_reducible refine xB ?_ | with_reducible refine isT ?_ | with_reducible refine isF ?_ | with_reducible refine isT' ?_ | with_reducible refine isF' ?_ | with_reducible refine iT ?_ | with_reducible refine iF ?_ | with_reducible refine iNT ?_ | with_reducible refine iNF ?_ | with_reducible refine xAnd ?_ | with_reducible refine xOr ?_ | with_reducible refine xNot ?_ | with_reducible refine xAndV ?_ | with_reducible refine xOrV ?_ | with_reducible refine xNotV ?_ | with_reducible refine xIf ?_ | with_reducible refine xCh ?_ | with_reducible refine xYes ?_ | with_reducible refine iAdd ?_ | with_reducible refine iSub ?_ | with_reducible refine iAnd ?_ | with_reducible refine iOr ?_ | with_reducible refine iLt ?_ | with_reducible refine iLe ?_ | with_reducible refine iGt ?_ | with_reducible refine iGe ?_ | with_reducible refine iEq ?_ | with_reducible refine iNe ?_ | with_reducible refine sEq ?_ | with_reducible refine sNe ?_ | with_reducible refine iNeg ?_ | with_reducible refine isN1 ?_ | with_reducible refine isN2 ?_ | with_reducible refine noN2 ?_ | with_reducible refine xLen ?_ | with_reducible refine lTupM ?_ | with_reducible refine lTfM ?_ | with_reducible refine lLstM ?_ | with_reducible refine lSrcM ?_ | with_reducible refine lTup ?_ | with_reducible refine lTf ?_ | with_reducible refine lLst ?_ | with_reducible refine lSrc ?_ | with_reducible refine lDic ?_ | with_reducible refine xAllM ?_ | with_reducible refine xAnyM ?_ | with_reducible refine xAll ?_ | with_reducible refine xFnC ?_ | with_reducible refine xFld ?_ | with_reducible refine xMth ?_ | with_reducible refine xSeqI ?_ | with_reducible refine sTup ?_ | with_reducible refine sTf ?_ | with_reducible refine sLst ?_ | with_reducible refine sSrc ?_ | with_reducible refine xEnum ?_ | with_reducible refine one1 ?_ | with_reducible refine xRng1 ?_ | with_reducible refine xRng2 ?_ | with_reducible refine int1' ?_ | with_reducible refine int2' ?_ | with_reducible refine xFor ?_ | with_reducible refine xTup ?_ | with_reducible refine xTupF ?_ | with_reducible refine xLst ?_ | with_reducible refine xNew ?_ | with_reducible refine xU ?_ | with_reducible refine xDrop ?_ | with_reducible refine xRetN ?_ | with_reducible refine xBreak ?_ | with_reducible refine xCont ?_ | with_reducible refine xStar ?_ | with_reducible refine gTup ?_ | with_reducible refine gCons ?_ | with_reducible refine gNil ?_ | with_reducible refine xSl ?_ | with_reducible refine pN ?_ | with_reducible refine pS ?_ | with_reducible refine isI1 ?_ | with_reducible refine slTup ?_ | with_reducible refine slSrc ?_ | with_reducible refine slLst ?_ | with_reducible refine xPar ?_ | with_reducible refine xPar3 ?_ | with_reducible refine two2' ?_ | with_reducible refine three' ?_ | with_reducible refine xBM ?_ | with_reducible refine bmLst ?_ | with_reducible refine bmSrc ?_ | with_reducible refine tfL ?_ | with_reducible refine tuL ?_ | with_reducible refine tuT ?_ | with_reducible refine xRevU ?_ | with_reducible refine revTup ?_ | with_reducible refine revTf ?_ | with_reducible refine xDicF ?_ | with_reducible refine xLcF ?_ | with_reducible refine xLcN ?_ | with_reducible refine xZip ?_ | with_reducible refine xCl ?_ | with_reducible refine andL (by with_unfolding_all exact lez rfl) ?_))
section
open PySem PySem.Spec PyProof.Rows
/-! ### the checker: a web's text, places of any kind -/
def sp_web_told (W : Addr) : DSp := fun ds S Q E => ∃ (ps : List Str) (ts : List (Str × Str)), ds = [.str (pageOf ps ts)] ∧ WebOk ps ts ∧ Q (webD W ps ts) S
def w_web_told (W : Addr) : WS := (wTry0 nsT (wNS (wRet (wCMeth W (sp_Web_read W) [] (wC (.obj W)) (wCons (wV 0) wNil)))) [⟨["InvalidText"], none, (wRet (wC .non))⟩])
theorem pure_web_told (W : Addr) : ∀ ds S Q E, sp_web_told W ds S Q E → w_web_told W (endsOf Q) (startD ["text"] ds) S := by
  rintro ds S Q E ⟨ps, ts, rfl, ok, q⟩
  refine xFn ?_
  show w_web_told W _ [some _] S
  unfold w_web_told
  and_intros
  refine xCMeth ?_
  and_intros
  refine ⟨rfl, ?_⟩
  and_intros
  exact ⟨ps, ts, rfl, ok, cl q⟩
def ArePl (ps : List Str) (d : D) : Prop := ∃ r, asTup d = some (plD r) ∧ r.Nodup ∧ ∀ x ∈ r, x ∈ ps
def ndB (r : List Str) : Bool := r.zipIdx.all fun z => !decide (z.1 ∈ r.take z.2)
theorem ndB_iff {r : List Str} : ndB r = true ↔ r.Nodup := by
  unfold ndB
  rw [List.all_eq_true]
  constructor
  · intro h
    refine List.pairwise_iff_getElem.mpr fun i j hi hj hij e => ?_
    have hz : (r[j], j) ∈ r.zipIdx := List.mk_mem_zipIdx_iff_getElem?.mpr (List.getElem?_eq_getElem hj)
    have := h _ hz
    simp only [Bool.not_eq_true', decide_eq_false_iff_not] at this
    exact this (by
      rw [← e]
      exact List.mem_take_iff_getElem.mpr ⟨i, by omega, rfl⟩)
  · rintro h ⟨x, i⟩ hz
    have hx : r[i]? = some x := List.mk_mem_zipIdx_iff_getElem?.mp hz
    simp only [Bool.not_eq_true', decide_eq_false_iff_not]
    exact nodup_take h hx
theorem slA {S : SO} {Q : KD} {d : D} {xs : List D} {k : Nat} (e : asTup d = some xs) (hk : k < xs.length) (h : Q (.tup (xs.take k)) S) : sliD d S none (some (k : Int)) Q := by
  cases d <;> first | (cases e; first | exact slTfHi h hk | exact slTup (by rw [cutHi]; exact h)) | cases e
def sp_are_places (W : Addr) : DSp := fun ds S Q E => ∃ (ps : List Str) (ts : List (Str × Str)) (d : D) (m : Nat), ds = [webD W ps ts, d] ∧ WebOk ps ts ∧ Any m d ∧ m ≤ 100000 ∧ ∀ b : Bool, (b = true ↔ ArePl ps d) → Q (.bl b) S
def w_are_places (W : Addr) : WS := (wSeq (wIfS (wOr (wNot (wB (wCall (cIsi (.ty "tuple") (fTy "tuple" [])) (wCons (wV 1) (wCons (wC (.ty "tuple")) wNil))))) (wNot (wB (wCall cAll (wCons (wLcP (wSeqI (wV 1)) (.n 2) wYes (wAndV (wCall (cIsi (.ty "str") (fTy "str" [])) (wCons (wV 2) (wCons (wC (.ty "str")) wNil))) (wO oIn (wV 2) (wFld W "row" (wV 0)))) [2]) wNil))))) (wRet (wC (.bl false))) wNext)
    (wRet (wCall cAll (wCons (wLcP (wEnum (wCons (wV 1) wNil)) (.t [3, 2]) wYes (wO oNotIn (wV 2) (wSl (wV 1) pNone (pSome (wV 3)))) [3, 2]) wNil))))
theorem pure_are_places (W : Addr) : ∀ ds S Q E, sp_are_places W ds S Q E → w_are_places W (endsOf Q) (startD ["web", "value", "place", "index"] ds) S := by
  rintro ds S Q E ⟨ps, ts, d, m, rfl, ok, A, hm, q⟩
  have few := ok.few
  refine xFn ?_
  show w_are_places W _ [some _, some _, none, none] S
  unfold w_are_places
  and_intros
  refine isiTupA ?_ A
  cases e : asTup d with
  | none =>
    refine isNB rfl ?_
    and_intros
    exact cl (q false ⟨fun h => (by cases h), fun ⟨r, h, _⟩ => by rw [e] at h; cases h⟩)
  | some xs =>
    obtain ⟨hl, hx⟩ := A.items e
    refine isYB rfl ?_
    and_intros
    refine lcM xs (fun d => d) (fun x => .bl (inB ps x)) ?_ (by omega) ?_ ?_
    · and_intros
      refine asTup_seqD e ?_
      exact srcX (by simp)
    · rintro x hxm S' e2
      (simp only [prD, putNT, wipeD, putAll, List.set_cons_zero, List.set_cons_succ, List.length_cons, List.length_nil, true_and]; and_intros)
      refine isiStrA ?_ (hx x hxm)
      cases ex : asStr x with
      | none =>
        refine isNB rfl ?_
        and_intros
        refine ⟨rfl, ?_⟩
        unfold inB
        rw [ex]
      | some s =>
        have e3 := asStr_of ex
        subst e3
        refine isYB rfl ?_
        and_intros
        refine inTf ?_ (hx _ hxm).sok ok.sok
        exact ⟨rfl, rfl⟩
    and_intros
    refine isCB (fun h3 => ?_) (fun h3 => ?_)
    · obtain ⟨r, rfl, hr⟩ := inB_all h3
      have hrl : (plD r).length = r.length := List.length_map ..
      and_intros
      refine lcM r.zipIdx (fun z : Str × Nat => .tup [.int (z.2 : Nat), .str z.1]) (fun z => .bl (!decide (z.1 ∈ r.take z.2))) ?_ (by rw [List.length_zipIdx]; omega) ?_ ?_
      · and_intros
        refine asTup_seqD e ?_
        exact srcE
      · rintro z hz S' e2
        have hz2 : r[z.2]? = some z.1 := List.mk_mem_zipIdx_iff_getElem?.mp hz
        have hlt := (List.getElem?_eq_some_iff.mp hz2).1
        (simp only [prD, putNT, wipeD, putAll, List.set_cons_zero, List.set_cons_succ, List.length_cons, List.length_nil, true_and]; and_intros)
        refine slA e (by rw [hrl]; exact hlt) ?_
        rw [← List.map_take]
        refine ninTup ?_ (hx _ (List.mem_map.mpr ⟨_, List.mem_of_getElem? hz2, rfl⟩)).sok fun y hy => (hx _ (List.mem_map.mpr ⟨_, List.mem_of_mem_take hy, rfl⟩)).sok
        exact ⟨rfl, rfl⟩
      and_intros
      refine cl (q _ ?_)
      show ndB r = true ↔ _
      rw [ndB_iff]
      constructor
      · exact fun h => ⟨r, e, h, hr⟩
      · rintro ⟨r2, h, nd, _⟩
        rw [e] at h
        have e4 := plD_inj (Option.some.inj h)
        rw [e4]
        exact nd
    · and_intros
      refine cl (q false ⟨fun h => (by cases h), fun ⟨r2, h, _, hs⟩ => ?_⟩)
      rw [e] at h
      cases h
      rw [all_inB hs] at h3
      cases h3
end
section
open PySem PySem.Spec PyProof.Rows
/-! ### the checker: partings, roads, caps of any kind -/
/-- caps by names -/
structure BarsN (ps : List Str) (ts : List (Str × Str)) (A B : List Str) : Prop where
  na : A.Nodup
  nb : B.Nodup
  sa : ∀ x ∈ A, x ∈ ps
  sb : ∀ x ∈ B, x ∈ ps
  cov : ∀ t ∈ ts, t.1 ∈ A ∨ t.2 ∈ B
def IsBar (ps : List Str) (ts : List (Str × Str)) (n : Int) (d : D) : Prop := ∃ x y A B, asTup d = some [x, y] ∧ asTup x = some (plD A) ∧ asTup y = some (plD B) ∧ BarsN ps ts A B ∧ (A.length : Int) + (B.length : Int) ≤ (ps.length : Int) - n
theorem inAm {S : SO} {Q : KD} {d : D} {A : List Str} {x : Str} (e : asTup d = some (plD A)) (hx : sOk x) (hA : ∀ y ∈ A, sOk y) (h : Q (.bl (decide (x ∈ A))) S) : oIn (.str x) d S Q := by
  cases d <;> first | (cases e; first | exact inTup h hx hA | exact inTf h hx hA) | cases e
open Classical in
noncomputable def areB (ps : List Str) (d : D) : Bool := decide (ArePl ps d)
theorem areB_iff {ps : List Str} {d : D} : areB ps d = true ↔ ArePl ps d := by
  classical
  unfold areB
  exact decide_eq_true_iff
theorem areB_eq {ps : List Str} {d : D} {b : Bool} (h : b = true ↔ ArePl ps d) : b = areB ps d := by
  cases b with
  | true => exact (areB_iff.mpr (h.mp rfl)).symm
  | false =>
    cases e : areB ps d with
    | true =>
      have := h.mpr (areB_iff.mp e)
      cases this
    | false => rfl
def sp_shows_barred (W : Addr) : DSp := fun ds S Q E => ∃ (ps : List Str) (ts : List (Str × Str)) (n : Int) (d : D) (m : Nat), ds = [webD W ps ts, .int n, d] ∧ WebOk ps ts ∧ Any m d ∧ m ≤ 1000 ∧ ∀ b : Bool, (b = true ↔ IsBar ps ts n d) → Q (.bl b) S
def w_shows_barred (W : Addr) : WS := (wSeq (wIfS (wOr (wNot (wB (wCall (cIsi (.ty "tuple") (fTy "tuple" [])) (wCons (wV 2) (wCons (wC (.ty "tuple")) wNil))))) (wOr (wB (wO oNe (wCall cLen (wCons (wV 2) wNil)) (wC (.int 2)))) (wNot (wB (wCall cAll (wCons (wLcP (wSeqI (wV 2)) (.n 5) wYes (wFn (sp_are_places W) [] (wCons (wV 0) (wCons (wV 5) wNil))) [5]) wNil)))))) (wRet (wC (.bl false))) wNext)
    (wSeq (wAsg (wV 2) (gTA 2 (gC (gV 3) (gC (gV 4) gN))))
    (wSeq (wIfS (wNot (wB (wCall cAll (wCons (wLcP (wSeqI (wFld W "pairs" (wV 0))) (.t [6, 7]) wYes (wOrV (wO oIn (wV 6) (wV 3)) (wO oIn (wV 7) (wV 4))) [6, 7]) wNil)))) (wRet (wC (.bl false))) wNext)
    (wRet (wO oLe (wO oAdd (wCall cLen (wCons (wV 3) wNil)) (wCall cLen (wCons (wV 4) wNil))) (wO oSub (wCall (cLenO W (sp_Web_len W)) (wCons (wV 0) wNil)) (wV 1)))))))
theorem pure_shows_barred (W : Addr) : ∀ ds S Q E, sp_shows_barred W ds S Q E → w_shows_barred W (endsOf Q) (startD ["web", "number", "caps", "begins", "ends", "part", "first", "second"] ds) S := by
  rintro ds S Q E ⟨ps, ts, n, d, m, rfl, ok, A, hm, q⟩
  have few := ok.few
  have tf := ok.tfew
  refine xFn ?_
  show w_shows_barred W _ [some _, some _, some _, none, none, none, none, none] S
  unfold w_shows_barred
  and_intros
  refine isiTupA ?_ A
  cases e : asTup d with
  | none =>
    refine isNB rfl ?_
    and_intros
    exact cl (q false ⟨fun h => (by cases h), fun ⟨_, _, _, _, h, _⟩ => by rw [e] at h; cases h⟩)
  | some xs =>
    obtain ⟨hl, hx⟩ := A.items e
    refine isYB rfl ?_
    and_intros
    refine asTup_len e ?_
    and_intros
    refine isND (fun h2 => ?_) (fun h2 => ?_)
    · obtain ⟨x, y, rfl⟩ : ∃ x y, xs = [x, y] := by
        match xs, h2 with
        | [x, y], _ => exact ⟨x, y, rfl⟩
        | [], h2 => simp at h2
        | [_], h2 => simp at h2
        | _ :: _ :: _ :: _, h2 => simp at h2; omega
      and_intros
      refine lcM [x, y] (fun d => d) (fun z => .bl (areB ps z)) ?_ (by simp) ?_ ?_
      · and_intros
        refine asTup_seqD e ?_
        exact srcX (by simp)
      · rintro z hz S' e2
        (simp only [prD, putNT, wipeD, putAll, List.set_cons_zero, List.set_cons_succ, List.length_cons, List.length_nil, true_and]; and_intros)
        refine ⟨ps, ts, z, m, rfl, ok, hx z hz, by omega, fun b hb => ⟨rfl, ?_⟩⟩
        rw [areB_eq hb]
      and_intros
      refine isCB (fun h3 => ?_) (fun h3 => ?_)
      · have h3' : (areB ps x && (areB ps y && true)) = true := h3
        simp only [Bool.and_true, Bool.and_eq_true] at h3'
        obtain ⟨a, ea, na, sa⟩ := areB_iff.mp h3'.1
        obtain ⟨b, eb, nb, sb⟩ := areB_iff.mp h3'.2
        and_intros
        refine gTAx e rfl ?_
        and_intros
        refine lcM ts prD (fun z => .bl (decide (z.1 ∈ a) || decide (z.2 ∈ b))) ?_ (by omega) ?_ ?_
        · and_intros
          exact srcT
        · rintro z hz S' e2
          obtain ⟨t1, t2, _⟩ := ok.tie z hz
          (simp only [prD, putNT, wipeD, putAll, List.set_cons_zero, List.set_cons_succ, List.length_cons, List.length_nil, true_and]; and_intros)
          refine inAm ea (ok.sok _ t1) (fun y hy => ok.sok _ (sa y hy)) ?_
          refine isCB (fun h => ?_) (fun h => ?_)
          · exact ⟨rfl, by rw [h]; rfl⟩
          · and_intros
            refine inAm eb (ok.sok _ t2) (fun y hy => ok.sok _ (sb y hy)) ?_
            exact ⟨rfl, by rw [h]; rfl⟩
        and_intros
        have fin : ∀ r : Bool, (r = true ↔ (∀ t ∈ ts, t.1 ∈ a ∨ t.2 ∈ b) ∧ (a.length : Int) + (b.length : Int) ≤ (ps.length : Int) - n) → (r = true ↔ IsBar ps ts n d) := fun r hr => by
          rw [hr]
          constructor
          · exact fun ⟨h1, h2⟩ => ⟨x, y, a, b, e, ea, eb, ⟨na, nb, sa, sb, h1⟩, h2⟩
          · rintro ⟨x', y', a', b', h, ha, hb, B, h2⟩
            rw [e] at h
            cases h
            rw [ea] at ha
            rw [eb] at hb
            have e1 := plD_inj (Option.some.inj ha)
            have e2 := plD_inj (Option.some.inj hb)
            subst e1 e2
            exact ⟨B.cov, h2⟩
        have hall : (ts.map fun z => decide (z.1 ∈ a) || decide (z.2 ∈ b)).all id = true ↔ ∀ t ∈ ts, t.1 ∈ a ∨ t.2 ∈ b := by
          rw [List.all_map, List.all_eq_true]
          refine forall_congr' fun t => forall_congr' fun _ => ?_
          simp
        refine isCB (fun h4 => ?_) (fun h4 => ?_)
        · have h4' : ∀ t ∈ ts, t.1 ∈ a ∨ t.2 ∈ b := by
            refine hall.mp ?_
            rw [List.all_map]
            exact h4
          and_intros
          refine asTup_len ea ?_
          and_intros
          refine asTup_len eb ?_
          and_intros
          refine lenWeb (by omega) ?_
          and_intros
          refine cl (q _ (fin _ ?_))
          rw [decide_eq_true_iff, List.length_map, List.length_map]
          exact ⟨fun h => ⟨h4', h⟩, fun h => h.2⟩
        · and_intros
          refine cl (q false (fin _ ⟨fun h => (by cases h), fun h => ?_⟩))
          have := hall.mpr h.1
          rw [List.all_map] at this
          have h5 := h4.symm.trans this
          cases h5
      · and_intros
        refine cl (q false ⟨fun h => (by cases h), fun ⟨x', y', a', b', h, ha, hb, B, h2⟩ => ?_⟩)
        rw [e] at h
        cases h
        have h1 := areB_iff.mpr (⟨a', ha, B.na, B.sa⟩ : ArePl ps x)
        have h2 := areB_iff.mpr (⟨b', hb, B.nb, B.sb⟩ : ArePl ps y)
        have h3' : (areB ps x && (areB ps y && true)) = false := h3
        rw [h1, h2] at h3'
        cases h3'
    · and_intros
      refine cl (q false ⟨fun h => (by cases h), fun ⟨x', y', a', b', h, _⟩ => ?_⟩)
      rw [e] at h
      cases h
      exact absurd rfl h2
theorem gval_some {tab : List (Str × Int)} {z : Str} {n : Int} (h : tab.lookup z = some n) : gval tab z = .int n := by
  unfold gval
  rw [h]
theorem strWeb {W : Addr} {S : SO} {Q : KD} {ps : List Str} {ts : List (Str × Str)} (ok : WebOk ps ts) (h : Q (.str (pageOf ps ts)) S) : cStrO W (sp_Web_str W) [webD W ps ts] S Q := ⟨⟨_, rfl, rfl⟩, ps, ts, rfl, ok, _, rfl, h⟩
end
section
open PySem PySem.Spec PyProof.Rows
/-! ### values of any kind whose tuples have no dict of their own -/
inductive AnyF (m : Nat) : D → Prop
  | non : AnyF m .non
  | bl (b : Bool) : AnyF m (.bl b)
  | int (i : Int) : AnyF m (.int i)
  | str (x : Str) (h : PyData.canLay0 (.str x) = true ∧ x.length ≤ m) : AnyF m (.str x)
  | tf (xs : List D) (hl : xs.length ≤ m) (h : ∀ x ∈ xs, AnyF m x) : AnyF m (.tf xs)
  | lst (xs : List D) (hl : xs.length ≤ m) (h : ∀ x ∈ xs, AnyF m x) : AnyF m (.lst xs)
  | dic (t : Bool) : AnyF m (.dic t [])
theorem AnyF.any {m : Nat} {d : D} (h : AnyF m d) : Any m d := by
  induction h with
  | non => exact .non
  | bl b => exact .bl b
  | int i => exact .int i
  | str x h => exact .str x h
  | tf xs hl _ ih => exact .tf xs hl ih
  | lst xs hl _ ih => exact .lst xs hl ih
  | dic t => exact .dic t
theorem AnyF.mono {m k : Nat} {d : D} (h : AnyF m d) (hk : m ≤ k) : AnyF k d := by
  induction h with
  | non => exact .non
  | bl b => exact .bl b
  | int i => exact .int i
  | str x h => exact .str x ⟨h.1, Nat.le_trans h.2 hk⟩
  | tf xs hl _ ih => exact .tf xs (Nat.le_trans hl hk) ih
  | lst xs hl _ ih => exact .lst xs (Nat.le_trans hl hk) ih
  | dic t => exact .dic t
theorem AnyF.tup {m : Nat} {d : D} {xs : List D} (h : AnyF m d) (e : asTup d = some xs) : d = .tf xs ∧ xs.length ≤ m ∧ ∀ x ∈ xs, AnyF m x := by
  cases h with
  | tf ys hl hx => cases e; exact ⟨rfl, hl, hx⟩
  | _ => cases e
theorem anyF_row {r : List Str} {m : Nat} (h : ∀ x ∈ r, sOk x ∧ x.length ≤ m) (hl : r.length ≤ m) : AnyF m (rowT r) := .tf _ (by rw [List.length_map]; exact hl) fun d hd => by
  obtain ⟨x, hx, rfl⟩ := List.mem_map.mp hd
  exact .str x (h x hx)
/-! ### the law's own look at roads and partings, of any kind -/
end
section
open PySem PySem.Spec PyProof.Rows
/-! ### lines with something otherwise -/
theorem ixAnyL {S : SO} {Q : KD} {xs : List D} {r : Nat} (h1 : r < xs.length) (h : ∀ x ∈ xs, Q x S) : oIx (.lst xs) (.int (r : Nat)) S Q := ixLst (atI_nat (List.getElem?_eq_getElem h1)) (h _ (List.getElem_mem _))
theorem AnyF.cut {m : Nat} {xs : List D} {lo hi : Option Int} (hl : xs.length ≤ m) (h : ∀ x ∈ xs, AnyF m x) : (cutD xs lo hi).length ≤ xs.length ∧ ∀ x ∈ cutD xs lo hi, x ∈ xs := by
  unfold cutD
  refine ⟨?_, fun x hx => List.mem_of_mem_drop (List.mem_of_mem_take hx)⟩
  rw [List.length_take, List.length_drop]
  omega
theorem addGf {S : SO} {Q : KD} {xs ys : List D} (hl : xs.length + ys.length ≤ 1000000) (h : Q (.tf (xs ++ ys)) S) : oAddG (.tf xs) (.tf ys) S Q := ⟨xs, ys, rfl, rfl, hl, fun e => by
  subst e
  exact h, fun e => by
  subst e
  rw [List.append_nil] at h
  exact h, fun _ _ => h⟩
theorem xRevT {we : WE} {sd : SD} {S : SO} {Q : KD} (h : we sd S fun d S1 => ∃ xs, (d = .tf xs ∨ d = .tup xs ∨ d = .kt xs) ∧ Q (.tf xs.reverse) S1) : wRevT we sd S Q := h
def sp_cel_bentL (W : Addr) : DSp := fun ds S Q E => ∃ (p : Addr) (a b c : Int) (rows : List (List Str)) (ts : List Str), ds = [.obj p, .tf (rows.map rowT), .lst (plD ts)] ∧ S p = some (pan3 a b c) ∧ rows.length ≤ 40 ∧ (∀ r ∈ rows, r.length ≤ 40 ∧ ∀ x ∈ r, sOk x ∧ x.length ≤ 100) ∧ ts ≠ [] ∧ ts.length ≤ 40 ∧ (∀ x ∈ ts, sOk x ∧ x.length ≤ 100) ∧ ∀ d (a b c : Int), AnyF 100 d → Q d (S.set p (pan3 a b c))
def w_cel_bentL (W : Addr) : WS := (wSeq (wIfS (wB (wO oEqT (wV 1) (wTup wNil))) (wRet (wO oIx (wLst (wCons (wTupF wNil) (wCons (wC .non) (wCons (wTupF (wCons (wTupF wNil) wNil)) (wCons (wLst (wCons (wTupF wNil) wNil)) wNil))))) (wFn (sp_cel_sip W) [] (wCons (wV 0) (wCons (wC (.int 4)) wNil))))) wNext)
    (wSeq (wAsg (wTup (wCons (wFn (sp_cel_sip W) [] (wCons (wV 0) (wCons (wCall cLen (wCons (wV 1) wNil)) wNil))) (wCons (wFn (sp_cel_sip W) [] (wCons (wV 0) (wCons (wC (.int 9)) wNil))) wNil))) (gT 2 (gC (gV 3) (gC (gV 4) gN))))
    (wSeq (wPar 5 6 (wCons (wO oIx (wV 1) (wV 3)) (wCons (wO oIx (wV 2) (wFn (sp_cel_sip W) [] (wCons (wV 0) (wCons (wCall cLen (wCons (wV 2) wNil)) wNil)))) wNil)))
    (wSeq (wIfS (wB (wO oEq (wV 4) (wC (.int 0)))) (wRet (wO oIx (wLst (wCons (wCall cList (wCons (wV 1) wNil)) (wCons (wC .non) (wCons (wTupF wNil) (wCons (wRevT (wV 1)) (wCons (wO oAddG (wV 1) (wSlG (wV 1) pNone (pSome (wC (.int 1))))) wNil)))))) (wFn (sp_cel_sip W) [] (wCons (wV 0) (wCons (wC (.int 5)) wNil))))) wNext)
    (wSeq (wIfS (wB (wO oEq (wV 4) (wC (.int 1)))) (wRet (wO oAddG (wSlG (wV 1) pNone (pSome (wV 3))) (wSlG (wV 1) (pSome (wO oAdd (wV 3) (wC (.int 1)))) pNone))) wNext)
    (wSeq (wIfS (wB (wO oLt (wV 4) (wC (.int 5)))) (wSeq (wAsg (wO oIx (wLst (wCons (wRevT (wV 5)) (wCons (wO oAddG (wV 5) (wTupF (wCons (wV 6) wNil))) (wCons (wSlG (wV 5) (pSome (wC (.int 1))) pNone) (wCons (wCall cList (wCons (wV 5) wNil)) (wCons (wO oAddG (wSlG (wV 5) pNone (pSome (wU oNeg (wC (.int 1))))) (wTupF (wCons (wC .non) wNil))) (wCons (wO oAddG (wSlG (wV 5) pNone (pSome (wU oNeg (wC (.int 1))))) (wTupF (wCons (wV 6) wNil))) wNil))))))) (wFn (sp_cel_sip W) [] (wCons (wV 0) (wCons (wC (.int 6)) wNil)))) (gV 7))
    (wRet (wO oAddG (wO oAddG (wSlG (wV 1) pNone (pSome (wV 3))) (wTupF (wCons (wV 7) wNil))) (wSlG (wV 1) (pSome (wO oAdd (wV 3) (wC (.int 1)))) pNone)))) wNext)
    (wSeq (wIfS (wAnd (wB (wO oEq (wV 4) (wC (.int 5)))) (wB (wO oGt (wCall cLen (wCons (wV 1) wNil)) (wC (.int 1))))) (wSeq (wAsg (wO oMod (wCall cInt (wCons (wO oAdd (wV 3) (wC (.int 1))) wNil)) (wCall cLen (wCons (wV 1) wNil))) (gV 8))
    (wRet (wCall cTupleF (wCons (wO oAdd (wLcP (wEnum (wCons (wV 1) wNil)) (.t [9, 10]) (wB (wO oNotIn (wV 9) (wLst (wCons (wV 3) (wCons (wV 8) wNil))))) (wV 10) [9, 10]) (wLst (wCons (wO oAddG (wV 5) (wO oIx (wV 1) (wV 8))) wNil))) wNil)))) wNext)
    (wRet (wV 1)))))))))
theorem pure_cel_bentL (W : Addr) : ∀ ds S Q E, sp_cel_bentL W ds S Q E → w_cel_bentL W (endsOf Q) (startD ["_law_cup_here", "_law_lines", "_law_labels_here", "_law_at", "_law_pick", "_law_line", "_law_label", "_law_odd", "_law_mate", "_law_k", "_law_each"] ds) S := by
  rintro ds S Q E ⟨p, a, b, c, rows, ts, rfl, hp, hrl, hr, htn, htl, hts, q⟩
  have htp : 0 < ts.length := List.length_pos_iff.mpr htn
  have rowA : ∀ r ∈ rows, AnyF 100 (rowT r) := fun r h => anyF_row (hr r h).2 (by have := (hr r h).1; omega)
  have rowsA : ∀ x ∈ rows.map rowT, AnyF 100 x := fun x hx => by
    obtain ⟨r, h, rfl⟩ := List.mem_map.mp hx
    exact rowA r h
  have rowsL : (rows.map rowT).length = rows.length := List.length_map ..
  have tfA : ∀ xs : List D, xs.length ≤ 100 → (∀ x ∈ xs, AnyF 100 x) → AnyF 100 (.tf xs) := fun xs => .tf xs
  refine xFn ?_
  show w_cel_bentL W _ [some _, some _, some _, none, none, none, none, none, none, none, none] S
  unfold w_cel_bentL
  and_intros
  refine ⟨_, rfl, rfl, ?_⟩
  refine isCB (fun h0 => ?_) (fun h0 => ?_)
  · and_intros
    refine sipC (m := 4) hp (by decide) (by decide) fun r h1 a b c => ?_
    and_intros
    refine ixAnyL (by simpa using h1) fun x hx => cl (q x a b c ?_)
    simp only [List.mem_cons, List.not_mem_nil, or_false] at hx
    rcases hx with rfl | rfl | rfl | rfl
    · exact .tf _ (by simp) (by simp)
    · exact .non
    · exact .tf _ (by simp) fun x hx => by
        rw [List.mem_singleton.mp hx]
        exact .tf _ (by simp) (by simp)
    · exact .lst _ (by simp) fun x hx => by
        rw [List.mem_singleton.mp hx]
        exact .tf _ (by simp) (by simp)
  have hpos : 0 < rows.length := by
    cases rows with
    | nil => cases h0
    | cons _ _ => simp
  and_intros
  refine sipC (m := rows.length) hp hpos (by omega) fun at_ hat a b c => ?_
  and_intros
  refine sipC (m := 9) set_same (by decide) (by decide) fun pick _ a b c => ?_
  rw [set_set]
  and_intros
  have gat : rows[at_]? = some rows[at_] := List.getElem?_eq_getElem hat
  refine ixTf (atM gat) ?_
  generalize hL : rows[at_] = L at gat
  have hLm : L ∈ rows := List.mem_of_getElem? gat
  have hLA := hr L hLm
  and_intros
  refine sipC (m := ts.length) set_same htp (by omega) fun lb hlb a b c => ?_
  rw [set_set]
  and_intros
  have glb : ts[lb]? = some ts[lb] := List.getElem?_eq_getElem hlb
  refine ixLst (atM glb) ?_
  generalize hB : ts[lb] = lab at glb
  have hlab := hts lab (List.mem_of_getElem? glb)
  have labA : AnyF 100 (.str lab) := .str lab hlab
  have LA : ∀ x ∈ plD L, AnyF 100 x := fun x hx => by
    obtain ⟨y, hy, rfl⟩ := List.mem_map.mp hx
    exact .str y (hLA.2 y hy)
  have LL : (plD L).length = L.length := List.length_map ..
  have hL40 := hLA.1
  have cutR : ∀ lo hi, (cutD (rows.map rowT) lo hi).length ≤ 40 ∧ ∀ x ∈ cutD (rows.map rowT) lo hi, AnyF 100 x := fun lo hi => by
    have h := AnyF.cut (m := 100) (lo := lo) (hi := hi) (by rw [rowsL]; omega) rowsA
    exact ⟨by rw [rowsL] at h; omega, fun x hx => rowsA x (h.2 x hx)⟩
  have cutL : ∀ lo hi, (cutD (plD L) lo hi).length ≤ 40 ∧ ∀ x ∈ cutD (plD L) lo hi, AnyF 100 x := fun lo hi => by
    have h := AnyF.cut (m := 100) (lo := lo) (hi := hi) (by rw [LL]; omega) LA
    exact ⟨by rw [LL] at h; omega, fun x hx => LA x (h.2 x hx)⟩
  have appA : ∀ {xs ys : List D}, xs.length + ys.length ≤ 100 → (∀ x ∈ xs, AnyF 100 x) → (∀ x ∈ ys, AnyF 100 x) → AnyF 100 (.tf (xs ++ ys)) := fun {xs ys} hl h1 h2 => .tf _ (by rw [List.length_append]; exact hl) fun x hx => (List.mem_append.mp hx).elim (h1 x) (h2 x)
  have oneA : ∀ {d : D}, AnyF 100 d → ∀ x ∈ [d], AnyF 100 x := fun {d} h x hx => by rw [List.mem_singleton.mp hx]; exact h
  and_intros
  refine isD (fun w0 => ?_) (fun w0 => ?_)
  · and_intros
    refine liS rfl ?_
    and_intros
    refine xRevT ?_
    and_intros
    refine ⟨_, .inl rfl, ?_⟩
    and_intros
    refine xSlG ?_
    and_intros
    refine ⟨_, rfl, ?_⟩
    have c1 := cutR none (some 1)
    refine addGf (by rw [rowsL]; omega) ?_
    and_intros
    refine sipC (m := 5) set_same (by decide) (by decide) fun r h1 a b c => ?_
    rw [set_set]
    and_intros
    refine ixAnyL (by simpa using h1) fun x hx => cl (q x a b c ?_)
    simp only [List.mem_cons, List.not_mem_nil, or_false] at hx
    rcases hx with rfl | rfl | rfl | rfl | rfl
    · exact .lst _ (by rw [rowsL]; omega) rowsA
    · exact .non
    · exact .tf _ (by simp) (by simp)
    · exact .tf _ (by rw [List.length_reverse, rowsL]; omega) fun x hx => rowsA x (List.mem_reverse.mp hx)
    · exact appA (by rw [rowsL]; omega) rowsA c1.2
  and_intros
  refine isD (fun w1 => ?_) (fun w1 => ?_)
  · and_intros
    refine xSlG ?_
    and_intros
    refine ⟨_, rfl, ?_⟩
    and_intros
    refine xSlG ?_
    and_intros
    refine ⟨_, rfl, ?_⟩
    have c1 := cutR none (some (at_ : Int))
    have c2 := cutR (some ((at_ : Int) + 1)) none
    refine addGf (by omega) ?_
    exact cl (q _ a b c (appA (by omega) c1.2 c2.2))
  and_intros
  refine isD (fun w2 => ?_) (fun w2 => ?_)
  · and_intros
    refine xRevT ?_
    and_intros
    refine ⟨_, .inl rfl, ?_⟩
    and_intros
    refine addGf (by rw [LL]; simp; omega) ?_
    and_intros
    refine xSlG ?_
    and_intros
    refine ⟨_, rfl, ?_⟩
    and_intros
    refine liS rfl ?_
    and_intros
    refine xSlG ?_
    and_intros
    refine ⟨_, rfl, ?_⟩
    and_intros
    have c0 := cutL (some 1) none
    have c1 := cutL none (some (-1))
    refine addGf (by simp; omega) ?_
    and_intros
    refine xSlG ?_
    and_intros
    refine ⟨_, rfl, ?_⟩
    and_intros
    refine addGf (by simp; omega) ?_
    and_intros
    refine sipC (m := 6) set_same (by decide) (by decide) fun r h1 a b c => ?_
    rw [set_set]
    and_intros
    refine ixAnyL (by simpa using h1) fun odd hodd => ?_
    have oddA : AnyF 100 odd := by
      simp only [List.mem_cons, List.not_mem_nil, or_false] at hodd
      rcases hodd with rfl | rfl | rfl | rfl | rfl | rfl
      · exact .tf _ (by rw [List.length_reverse, LL]; omega) fun x hx => LA x (List.mem_reverse.mp hx)
      · exact appA (by rw [LL]; simp; omega) LA (oneA labA)
      · exact .tf _ (by omega) c0.2
      · exact .lst _ (by rw [LL]; omega) LA
      · exact appA (by simp; omega) c1.2 (oneA .non)
      · exact appA (by simp; omega) c1.2 (oneA labA)
    and_intros
    refine xSlG ?_
    and_intros
    refine ⟨_, rfl, ?_⟩
    and_intros
    have d1 := cutR none (some (at_ : Int))
    have d2 := cutR (some ((at_ : Int) + 1)) none
    refine addGf (by simp; omega) ?_
    and_intros
    refine xSlG ?_
    and_intros
    refine ⟨_, rfl, ?_⟩
    refine addGf (by rw [List.length_append]; simp; omega) ?_
    exact cl (q _ a b c (appA (by rw [List.length_append]; simp; omega) (fun x hx => (List.mem_append.mp hx).elim (d1.2 x) (oneA oddA x)) d2.2))
  and_intros
  refine isD (fun w3 => ?_) (fun w3 => ?_)
  · and_intros
    refine isD (fun w4 => ?_) (fun w4 => ?_)
    · and_intros
      refine ⟨by omega, ?_⟩
      dsimp only
      rw [show ((at_ : Int) + 1) = ((at_ + 1 : Nat) : Int) by omega, ← Int.natCast_emod]
      obtain ⟨mt, hmt⟩ : ∃ mt, mt = (at_ + 1) % rows.length := ⟨_, rfl⟩
      have hml : mt < rows.length := by rw [hmt]; exact Nat.mod_lt _ hpos
      rw [← hmt]
      have gm : rows[mt]? = some rows[mt] := List.getElem?_eq_getElem hml
      generalize hM : rows[mt] = M at gm
      have hMA := hr M (List.mem_of_getElem? gm)
      have MA : ∀ x ∈ plD M, AnyF 100 x := fun x hx => by
        obtain ⟨y, hy, rfl⟩ := List.mem_map.mp hx
        exact .str y (hMA.2 y hy)
      have ML : (plD M).length = M.length := List.length_map ..
      have hM40 := hMA.1
      and_intros
      refine lcF rows.zipIdx (fun z : List Str × Nat => .tup [.int (z.2 : Nat), rowT z.1]) (fun z => !decide (z.2 ∈ [at_, mt])) (fun z => rowT z.1) ?_ (by rw [List.length_zipIdx]; omega) (fun z hz S' e => ?_) ?_
      · and_intros
        exact srcE
      · (simp only [prD, putNT, wipeD, putAll, List.set_cons_zero, List.set_cons_succ, List.length_cons, List.length_nil, true_and]; and_intros)
        refine ninN (l := [at_, mt]) ?_
        refine lcKI fun h => ?_
        and_intros
        exact ⟨rfl, rfl⟩
      and_intros
      refine ixTf (atM gm) ?_
      refine addGf (by rw [LL, ML]; omega) ?_
      and_intros
      have hfl : ((rows.zipIdx.filter fun z => !decide (z.2 ∈ [at_, mt])).map fun z => rowT z.1).length ≤ 40 := by
        rw [List.length_map]
        have := List.length_filter_le (fun z : List Str × Nat => !decide (z.2 ∈ [at_, mt])) rows.zipIdx
        rw [List.length_zipIdx] at this
        omega
      refine lAdd ?_ (by simp only [List.length_cons, List.length_nil]; omega)
      and_intros
      refine cl (q _ a b c (appA (by simp only [List.length_cons, List.length_nil]; omega) (fun x hx => ?_) (oneA (appA (by rw [LL, ML]; omega) LA MA))))
      obtain ⟨z, hz, rfl⟩ := List.mem_map.mp hx
      exact rowA z.1 (List.mem_of_getElem? (List.mk_mem_zipIdx_iff_getElem?.mp (List.mem_filter.mp hz).1))
    · and_intros
      exact cl (q _ a b c (.tf _ (by rw [rowsL]; omega) rowsA))
  · and_intros
    exact cl (q _ a b c (.tf _ (by rw [rowsL]; omega) rowsA))
end
section
open PySem PySem.Spec PyProof.Rows
/-! ### the checker: colourings, places apart -/
def TupU (d : D) : Prop := ∀ xs, asTup d = some xs → d = .tup xs
def sp_is_colouring_of (W : Addr) : DSp := fun ds S Q E => ∃ (ps : List Str) (ts : List (Str × Str)) (d : D) (m : Nat), ds = [webD W ps ts, d] ∧ WebOk ps ts ∧ Any m d ∧ TupU d ∧ m ≤ 100000 ∧ ∀ b : Bool, (b = true ↔ IsClr ps ts d) → Q (.bl b) S
def w_is_colouring_of (W : Addr) : WS := (wSeq (wIfS (wOr (wNot (wB (wCall (cIsi (.ty "tuple") (fTy "tuple" [])) (wCons (wV 1) (wCons (wC (.ty "tuple")) wNil))))) (wB (wO oNe (wCall cLen (wCons (wV 1) wNil)) (wCall (cLenO W (sp_Web_len W)) (wCons (wV 0) wNil))))) (wRet (wC (.bl false))) wNext)
    (wSeq (wIfS (wNot (wB (wCall cAll (wCons (wLcP (wSeqI (wV 1)) (.n 3) wYes (wAndV (wFn (sp_is_integerA W) [] (wCons (wV 3) wNil)) (wO oGt (wV 3) (wC (.int 0)))) [3]) wNil)))) (wRet (wC (.bl false))) wNext)
    (wSeq (wAsg (wDcP false (wZip (wCons (wFld W "row" (wV 0)) (wCons (wV 1) wNil))) (.t [4, 3]) wYes (wV 4) (wV 3) [4, 3]) (gV 2))
    (wRet (wCall cAll (wCons (wLcP (wSeqI (wFld W "pairs" (wV 0))) (.t [5, 6]) wYes (wO oNe (wO oIx (wV 2) (wV 5)) (wO oIx (wV 2) (wV 6))) [5, 6]) wNil))))))
theorem pure_is_colouring_of (W : Addr) : ∀ ds S Q E, sp_is_colouring_of W ds S Q E → w_is_colouring_of W (endsOf Q) (startD ["web", "value", "colours", "colour", "place", "first", "second"] ds) S := by
  rintro ds S Q E ⟨ps, ts, d, m, rfl, ok, A, tu, hm, q⟩
  have few := ok.few
  have tf := ok.tfew
  refine xFn ?_
  show w_is_colouring_of W _ [some _, some _, none, none, none, none, none] S
  unfold w_is_colouring_of
  and_intros
  refine isiTupA ?_ A
  cases e : asTup d with
  | none =>
    refine isNB rfl ?_
    and_intros
    exact cl (q false ⟨fun h => (by cases h), fun ⟨ns, h, _⟩ => by rw [e] at h; cases h⟩)
  | some xs =>
    have ed := tu xs e
    subst ed
    refine isYB rfl ?_
    and_intros
    refine lenWeb (by omega) ?_
    and_intros
    refine isND (fun hl => ?_) fun hl => ?_
    · have hl : xs.length = ps.length := by
        have hl : ((xs.length : Nat) : Int) = (ps.length : Nat) := hl
        omega
      have Ax : ∀ x ∈ xs, Any m x := (A.items e).2
      and_intros
      refine lcM xs (fun d => d) (fun d => .bl (posB d)) (by and_intros; exact srcX (by simp)) (by omega) (fun x hx S' _ => ?_) ?_
      · (simp only [prD, putNT, wipeD, putAll, List.set_cons_zero, List.set_cons_succ, List.length_cons, List.length_nil, true_and]; and_intros)
        refine ⟨m, x, rfl, Ax x hx, ?_⟩
        have Ax := Ax x hx
        cases x with
        | int i =>
          and_intros
          exact ⟨trivial, rfl, rfl⟩
        | _ =>
          and_intros
          exact ⟨rfl, rfl⟩
      and_intros
      refine isCB (fun h => ?_) (fun h => ?_)
      · obtain ⟨ns, rfl, hn⟩ := all_pos h
        rw [List.length_map] at hl
        and_intros
        refine dcM (ps.zip ns) (fun z : Str × Int => .tup [.str z.1, .int z.2]) (fun z => .str z.1) (fun z => .int z.2) ?_ (by rw [List.length_zip]; omega) ?_ ?_
        · and_intros
          exact zipK rfl rfl srcZ
        · rintro z hz S' e2
          (simp only [prD, putNT, wipeD, putAll, List.set_cons_zero, List.set_cons_succ, List.length_cons, List.length_nil, true_and]; and_intros)
          exact ⟨⟨rfl, rfl⟩, ⟨_, rfl⟩, rfl, rfl⟩
        have ez : (ps.zip ns).map (fun z : Str × Int => (D.str z.1, D.int z.2)) = clrK ps ns := by
          unfold clrK
          rw [List.zip_map]
          rfl
        rw [ez, clrK_put ok.nd hl]
        have tk : ∀ t ∈ ts, ∃ i j : Int, dget (clrK ps ns) (.str t.1) = some (.int i) ∧ dget (clrK ps ns) (.str t.2) = some (.int j) := fun t ht => by
          obtain ⟨i, hi⟩ := clrK_get hl (ok.tie t ht).1
          obtain ⟨j, hj⟩ := clrK_get hl (ok.tie t ht).2.1
          exact ⟨i, j, hi, hj⟩
        and_intros
        refine lcM ts prD (fun t => .bl (apartK (clrK ps ns) t)) (by and_intros; exact srcT) (by omega) (fun t ht S' _ => ?_) ?_
        · obtain ⟨i, j, hi, hj⟩ := tk t ht
          (simp only [prD, putNT, wipeD, putAll, List.set_cons_zero, List.set_cons_succ, List.length_cons, List.length_nil, true_and]; and_intros)
          refine ixDic (key_str _) hi ?_
          and_intros
          refine ixDic (key_str _) hj ?_
          and_intros
          refine ⟨rfl, ?_⟩
          unfold apartK
          rw [hi, hj]
          show D.bl (decide (i ≠ j)) = _
          simp
        and_intros
        refine cl (q _ ?_)
        rw [List.all_eq_true]
        refine ⟨fun h => ⟨ns, e, hl, hn, h⟩, fun ⟨ns', h1, h2, h3, h4⟩ => ?_⟩
        rw [e] at h1
        rw [ints_injk (Option.some.inj h1)]
        exact h4
      · and_intros
        refine cl (q false ⟨fun h => (by cases h), fun ⟨ns, h1, _, h3, _⟩ => ?_⟩)
        rw [e] at h1
        rw [Option.some.inj h1, pos_all h3] at h
        cases h
    · have hl : ¬ ((xs.length : Nat) : Int) = (ps.length : Nat) := hl
      and_intros
      refine cl (q false ⟨fun h => (by cases h), fun ⟨ns, h1, h2, _⟩ => ?_⟩)
      rw [e] at h1
      rw [Option.some.inj h1, List.length_map] at hl
      exact absurd (by omega) hl
/-- a colouring without a number above n -/
def IsClrN (ps : List Str) (ts : List (Str × Str)) (n : Int) (d : D) : Prop := IsClr ps ts d ∧ ∀ ns : List Int, asTup d = some (ns.map D.int) → ∀ k ∈ ns, k ≤ n
def sp_shows_coloured (W : Addr) : DSp := fun ds S Q E => ∃ (ps : List Str) (ts : List (Str × Str)) (n : Int) (d : D) (m : Nat), ds = [webD W ps ts, .int n, d] ∧ WebOk ps ts ∧ Any m d ∧ TupU d ∧ m ≤ 1000 ∧ ∀ b : Bool, (b = true ↔ IsClrN ps ts n d) → Q (.bl b) S
def w_shows_coloured (W : Addr) : WS := (wRet (wAndV (wFn (sp_is_colouring_of W) [] (wCons (wV 0) (wCons (wV 2) wNil))) (wO oLe (wCall cMaxT (wCons (wV 2) wNil)) (wV 1))))
theorem pure_shows_coloured (W : Addr) : ∀ ds S Q E, sp_shows_coloured W ds S Q E → w_shows_coloured W (endsOf Q) (startD ["web", "number", "colours"] ds) S := by
  rintro ds S Q E ⟨ps, ts, n, d, m, rfl, ok, A, tu, hm, q⟩
  refine xFn ?_
  show w_shows_coloured W _ [some _, some _, some _] S
  unfold w_shows_coloured
  and_intros
  refine ⟨ps, ts, d, m, rfl, ok, A, tu, by omega, fun b hb => ?_⟩
  refine isCB (fun h => ?_) (fun h => ?_)
  · have hc := hb.mp h
    obtain ⟨ns, e, hl, hp, ha⟩ := id hc
    have ed := tu _ e
    subst ed
    have hpos := ok.pos
    and_intros
    refine ⟨ns, rfl, fun e0 => ?_, fun mx hmx => ?_⟩
    · rw [e0] at hl
      simp at hl
      omega
    and_intros
    refine cl (q _ ?_)
    rw [decide_eq_true_iff]
    constructor
    · intro h
      refine ⟨hc, fun ns' h' k hk => ?_⟩
      rw [e] at h'
      rw [← ints_injk (Option.some.inj h')] at hk
      have := hmx.2 k hk
      omega
    · intro h
      exact h.2 ns e mx hmx.1
  · exact cl (q false ⟨fun z => (by cases z), fun z => absurd (hb.mpr z.1) (by rw [h]; simp)⟩)
def apD (z : Str × List Str) : D := .tup [.str z.1, .tf (plD z.2)]
instance : InjD apD := ⟨fun a b e => by
  unfold apD at e
  injection e with e
  injection e with e1 e2
  injection e2 with e2 _
  injection e1 with e1
  injection e2 with e2
  exact Prod.ext e1 (plD_inj e2)⟩
/-- a place with others, it among them, that no tie leaves -/
structure ShutB (ts : List (Str × Str)) (z : Str × List Str) : Prop where
  nd : z.2.Nodup
  hd : z.1 ∈ z.2
  shut : ∀ t ∈ ts, t.1 ∈ z.2 → t.2 ∈ z.2
def sp_is_shut (W : Addr) : DSp := fun ds S Q E => ∃ (ps : List Str) (ts : List (Str × Str)) (z : Str × List Str), ds = [webD W ps ts, apD z] ∧ WebOk ps ts ∧ z.1 ∈ ps ∧ (∀ x ∈ z.2, x ∈ ps) ∧ z.2.length ≤ 1000 ∧ ∀ b : Bool, (b = true ↔ ShutB ts z) → Q (.bl b) S
def w_is_shut (W : Addr) : WS := (wSeq (wIfS (wOr (wNot (wB (wCall (cIsi (.ty "tuple") (fTy "tuple" [])) (wCons (wV 1) (wCons (wC (.ty "tuple")) wNil))))) (wOr (wB (wO oNe (wCall cLen (wCons (wV 1) wNil)) (wC (.int 2)))) (wNot (wB (wFn (sp_are_places W) [] (wCons (wV 0) (wCons (wO oIx (wV 1) (wC (.int 1))) wNil))))))) (wRet (wC (.bl false))) wNext)
    (wSeq (wIfS (wOr (wNot (wB (wCall (cIsi (.ty "str") (fTy "str" [])) (wCons (wO oIx (wV 1) (wC (.int 0))) (wCons (wC (.ty "str")) wNil))))) (wB (wO oNotIn (wO oIx (wV 1) (wC (.int 0))) (wO oIx (wV 1) (wC (.int 1)))))) (wRet (wC (.bl false))) wNext)
    (wRet (wCall cAll (wCons (wLcP (wSeqI (wFld W "pairs" (wV 0))) (.t [2, 3]) wYes (wOrV (wO oNotIn (wV 2) (wO oIx (wV 1) (wC (.int 1)))) (wO oIn (wV 3) (wO oIx (wV 1) (wC (.int 1))))) [2, 3]) wNil)))))
theorem anyRow {r : List Str} {m : Nat} (h : ∀ x ∈ r, sOk x ∧ x.length ≤ m) (hl : r.length ≤ m) : Any m (.tf (plD r)) := .tf _ (by rw [List.length_map]; exact hl) fun d hd => by
  obtain ⟨x, hx, rfl⟩ := List.mem_map.mp hd
  exact .str x (h x hx)
theorem any_rowT {r : List Str} {m : Nat} (h : ∀ x ∈ r, sOk x ∧ x.length ≤ m) (hl : r.length ≤ m) : Any m (.tup (plD r)) := .tup _ (by rw [List.length_map]; exact hl) fun d hd => by
  obtain ⟨x, hx, rfl⟩ := List.mem_map.mp hd
  exact .str x (h x hx)
theorem web_len {ps : List Str} {ts : List (Str × Str)} (ok : WebOk ps ts) {x : Str} (h : x ∈ ps) : sOk x ∧ x.length ≤ 1000 := ⟨name_sOk (ok.nm x h), by have := (name_chars (ok.nm x h)).2.1; omega⟩
theorem pure_is_shut (W : Addr) : ∀ ds S Q E, sp_is_shut W ds S Q E → w_is_shut W (endsOf Q) (startD ["web", "value", "first", "second"] ds) S := by
  rintro ds S Q E ⟨ps, ts, ⟨h, own⟩, rfl, ok, hh, ho, hl, q⟩
  have tf := ok.tfew
  have hh : h ∈ ps := hh
  have ho : ∀ x ∈ own, x ∈ ps := ho
  have hl : own.length ≤ 1000 := hl
  have hos : ∀ x ∈ own, sOk x := fun x hx => ok.sok x (ho x hx)
  refine xFn ?_
  show w_is_shut W _ [some _, some (.tup [.str h, .tf (plD own)]), none, none] S
  unfold w_is_shut
  and_intros
  refine isNB rfl ?_
  and_intros
  refine ixTup at1 ?_
  and_intros
  refine ⟨ps, ts, _, 1000, rfl, ok, anyRow (fun x hx => web_len ok (ho x hx)) hl, by decide, fun b hb => ?_⟩
  refine isCB (fun h1 => ?_) (fun h1 => ?_)
  · obtain ⟨r, er, nd, _⟩ := hb.mp h1
    have er := plD_inj (Option.some.inj er)
    subst er
    and_intros
    refine ixTup at0 ?_
    and_intros
    refine ixTup at0 ?_
    and_intros
    refine ixTup at1 ?_
    refine ninTf ?_ (ok.sok h hh) hos
    refine isND (fun h2 => ?_) (fun h2 => ?_)
    · and_intros
      refine lcM ts prD (fun z => .bl (!decide (z.1 ∈ own) || decide (z.2 ∈ own))) ?_ (by omega) ?_ ?_
      · and_intros
        exact srcT
      · rintro z hz S' e2
        obtain ⟨t1, t2, _⟩ := ok.tie z hz
        (simp only [prD, putNT, wipeD, putAll, List.set_cons_zero, List.set_cons_succ, List.length_cons, List.length_nil, true_and]; and_intros)
        refine ixTup at1 ?_
        refine ninTf ?_ (ok.sok _ t1) hos
        refine isCB (fun h => ?_) (fun h => ?_)
        · exact ⟨rfl, by rw [h]; rfl⟩
        · and_intros
          refine ixTup at1 ?_
          refine inTf ?_ (ok.sok _ t2) hos
          exact ⟨rfl, by rw [h]; rfl⟩
      and_intros
      refine cl (q _ ?_)
      have hall : (ts.all fun z => !decide (z.1 ∈ own) || decide (z.2 ∈ own)) = true ↔ ∀ t ∈ ts, t.1 ∈ own → t.2 ∈ own := by
        rw [List.all_eq_true]
        refine forall_congr' fun t => forall_congr' fun _ => ?_
        by_cases h3 : t.1 ∈ own <;> simp [h3]
      constructor
      · exact fun h3 => ⟨nd, h2, hall.mp h3⟩
      · exact fun B => hall.mpr B.shut
    · and_intros
      exact cl (q false ⟨fun z => (by cases z), fun B => absurd B.hd h2⟩)
  · and_intros
    refine cl (q false ⟨fun z => (by cases z), fun B => ?_⟩)
    have := hb.mpr ⟨own, rfl, B.nd, ho⟩
    rw [h1] at this
    cases this
/-- pairs that show that places are apart -/
structure ApB (ts : List (Str × Str)) (prs : List (Str × List Str)) : Prop where
  sh : ∀ z ∈ prs, ShutB ts z
  nd : (prs.map (·.1)).Nodup
  ap : ∀ z ∈ prs, ∀ y ∈ prs, y.1 = z.1 ∨ y.1 ∉ z.2
def apsD (prs : List (Str × List Str)) : D := .tup (prs.map apD)
open Classical in
noncomputable def shutB (ts : List (Str × Str)) (z : Str × List Str) : Bool := decide (ShutB ts z)
theorem shutB_iff {ts : List (Str × Str)} {z : Str × List Str} : shutB ts z = true ↔ ShutB ts z := by
  classical
  unfold shutB
  exact decide_eq_true_iff
def sp_shows_apart (W : Addr) : DSp := fun ds S Q E => ∃ (ps : List Str) (ts : List (Str × Str)) (n : Int) (d : D) (m : Nat), ds = [webD W ps ts, .int n, d] ∧ WebOk ps ts ∧ Any m d ∧
  ((asTup d = none ∧ Q (.bl false) S) ∨ ∃ prs, d = apsD prs ∧ prs.length ≤ 1000 ∧ (∀ z ∈ prs, z.1 ∈ ps ∧ (∀ x ∈ z.2, x ∈ ps) ∧ z.2.length ≤ 1000) ∧ ∀ b : Bool, (b = true ↔ ApB ts prs ∧ ((prs.length : Nat) : Int) = n) → Q (.bl b) S)
def w_shows_apart (W : Addr) : WS := (wSeq (wIfS (wOr (wNot (wB (wCall (cIsi (.ty "tuple") (fTy "tuple" [])) (wCons (wV 2) (wCons (wC (.ty "tuple")) wNil))))) (wOr (wB (wO oNe (wCall cLen (wCons (wV 2) wNil)) (wV 1))) (wNot (wB (wCall cAll (wCons (wLcP (wSeqI (wV 2)) (.n 4) wYes (wFn (sp_is_shut W) [] (wCons (wV 0) (wCons (wV 4) wNil))) [4]) wNil)))))) (wRet (wC (.bl false))) wNext)
    (wSeq (wAsg (wLcP (wSeqI (wV 2)) (.n 4) wYes (wO oIx (wV 4) (wC (.int 0))) [4]) (gV 3))
    (wSeq (wIfS (wNot (wB (wFn (sp_are_places W) [] (wCons (wV 0) (wCons (wCall cTuple (wCons (wV 3) wNil)) wNil))))) (wRet (wC (.bl false))) wNext)
    (wRet (wCall cAll (wCons (wLcP (wSeqI (wV 2)) (.n 4) wYes (wCall cAll (wCons (wLcP (wSeqI (wV 3)) (.n 5) wYes (wOrV (wO oEq (wV 5) (wO oIx (wV 4) (wC (.int 0)))) (wO oNotIn (wV 5) (wO oIx (wV 4) (wC (.int 1))))) [5]) wNil)) [4]) wNil))))))
theorem pure_shows_apart (W : Addr) : ∀ ds S Q E, sp_shows_apart W ds S Q E → w_shows_apart W (endsOf Q) (startD ["web", "number", "pairs", "heads", "pair", "head"] ds) S := by
  rintro ds S Q E ⟨ps, ts, n, d, m, rfl, ok, A, hq⟩
  refine xFn ?_
  show w_shows_apart W _ [some _, some _, some _, none, none, none] S
  unfold w_shows_apart
  and_intros
  refine isiTupA ?_ A
  rcases hq with ⟨e, q⟩ | ⟨prs, rfl, hl, hp, q⟩
  · rw [e]
    refine isNB rfl ?_
    and_intros
    exact cl q
  unfold apsD
  refine isYB rfl ?_
  and_intros
  refine isND (fun h2 => ?_) (fun h2 => ?_)
  · and_intros
    refine lcM prs apD (fun z => .bl (shutB ts z)) ?_ (by omega) (fun z hz S' e => ?_) ?_
    · and_intros
      exact srcT
    · (simp only [prD, putNT, wipeD, putAll, List.set_cons_zero, List.set_cons_succ, List.length_cons, List.length_nil, true_and]; and_intros)
      obtain ⟨h3, h4, h5⟩ := hp z hz
      refine ⟨ps, ts, z, rfl, ok, h3, h4, h5, fun b hb => ⟨rfl, ?_⟩⟩
      rw [show shutB ts z = b from Bool.eq_iff_iff.mpr (shutB_iff.trans hb.symm)]
    and_intros
    refine isCB (fun h3 => ?_) (fun h3 => ?_)
    · have h3' : ∀ z ∈ prs, ShutB ts z := fun z hz => shutB_iff.mp (List.all_eq_true.mp h3 z hz)
      and_intros
      refine lcM prs apD (fun z => .str z.1) ?_ (by omega) (fun z hz S' e => ?_) ?_
      · and_intros
        exact srcT
      · unfold apD
        (simp only [prD, putNT, wipeD, putAll, List.set_cons_zero, List.set_cons_succ, List.length_cons, List.length_nil, true_and]; and_intros)
        refine ixTup at0 ?_
        exact ⟨rfl, rfl⟩
      have hsk : ∀ x ∈ prs.map (·.1), x ∈ ps := fun x hx => by
        obtain ⟨z, hz, rfl⟩ := List.mem_map.mp hx
        exact (hp z hz).1
      rw [show (prs.map fun z => D.str z.1) = plD (prs.map (·.1)) by unfold plD; rw [List.map_map]; rfl]
      and_intros
      refine ⟨ps, ts, _, 1000, rfl, ok, any_rowT (fun x hx => web_len ok (hsk x hx)) (by rw [List.length_map]; exact hl), by decide, fun b hb => ?_⟩
      refine isCB (fun h4 => ?_) (fun h4 => ?_)
      · obtain ⟨r, er, nd, _⟩ := hb.mp h4
        have er := plD_inj (Option.some.inj er)
        rw [← er] at nd
        and_intros
        refine lcM prs apD (fun z => .bl ((prs.map (·.1)).all fun y => decide (y = z.1) || !decide (y ∈ z.2))) ?_ (by omega) (fun z hz S' e => ?_) ?_
        · and_intros
          exact srcT
        · obtain ⟨h5, h6, h7⟩ := hp z hz
          have hzs : ∀ x ∈ z.2, sOk x := fun x hx => ok.sok x (h6 x hx)
          unfold apD
          (simp only [prD, putNT, wipeD, putAll, List.set_cons_zero, List.set_cons_succ, List.length_cons, List.length_nil, true_and]; and_intros)
          refine lcM (prs.map (·.1)) D.str (fun y => .bl (decide (y = z.1) || !decide (y ∈ z.2))) ?_ (by rw [List.length_map]; omega) (fun y hy S2 e2 => ?_) ?_
          · and_intros
            exact srcT
          · (simp only [prD, putNT, wipeD, putAll, List.set_cons_zero, List.set_cons_succ, List.length_cons, List.length_nil, true_and]; and_intros)
            refine ixTup at0 ?_
            and_intros
            refine isD (fun h8 => ?_) (fun h8 => ?_)
            · exact ⟨rfl, by rw [decide_eq_true h8]; rfl⟩
            · and_intros
              refine ixTup at1 ?_
              refine ninTf ?_ (ok.sok y (hsk y hy)) hzs
              exact ⟨rfl, by rw [decide_eq_false h8]; rfl⟩
          and_intros
          exact ⟨rfl, rfl⟩
        and_intros
        refine cl (q _ ?_)
        constructor
        · intro h8
          refine ⟨⟨h3', nd, fun z hz y hy => ?_⟩, h2⟩
          have h9 := List.all_eq_true.mp (List.all_eq_true.mp h8 z hz) y.1 (List.mem_map.mpr ⟨y, hy, rfl⟩)
          simpa using h9
        · rintro ⟨B, _⟩
          rw [List.all_eq_true]
          intro z hz
          rw [List.all_eq_true]
          intro y hy
          obtain ⟨u, hu, rfl⟩ := List.mem_map.mp hy
          have := B.ap z hz u hu
          simpa using this
      · and_intros
        refine cl (q false ⟨fun z => (by cases z), fun B => ?_⟩)
        have := hb.mpr ⟨_, rfl, B.1.nd, hsk⟩
        rw [h4] at this
        cases this
    · and_intros
      refine cl (q false ⟨fun z => (by cases z), fun B => ?_⟩)
      have : (prs.all fun z => shutB ts z) = true := List.all_eq_true.mpr fun z hz => shutB_iff.mpr (B.1.sh z hz)
      have h5 := h3.symm.trans this
      cases h5
  · and_intros
    exact cl (q false ⟨fun z => (by cases z), fun B => absurd B.2 h2⟩)
def sp_nv_parted (W : Addr) : DSp := fun _ _ _ _ => False
def sp_nv_long (W : Addr) : DSp := fun _ _ _ _ => False
def sp_acceptsG (W : Addr) : DSp := fun ds S Q E => ∃ (w : Str) (ps : List Str) (ts : List (Str × Str)) (n : Int) (d : D) (m : Nat), ds = [.tup [.str w, .str (pageOf ps ts), .int n], d] ∧ WebOk ps ts ∧ Any m d ∧ m ≤ 1000 ∧
  ((w = "barred" ∧ ∀ b : Bool, (b = true ↔ IsBar ps ts n d) → Q (.bl b) S) ∨ (w = "coloured" ∧ TupU d ∧ ∀ b : Bool, (b = true ↔ IsClrN ps ts n d) → Q (.bl b) S) ∨
  (w = "apart" ∧ ((asTup d = none ∧ Q (.bl false) S) ∨ ∃ prs, d = apsD prs ∧ prs.length ≤ 1000 ∧ (∀ z ∈ prs, z.1 ∈ ps ∧ (∀ x ∈ z.2, x ∈ ps) ∧ z.2.length ≤ 1000) ∧ ∀ b : Bool, (b = true ↔ ApB ts prs ∧ ((prs.length : Nat) : Int) = n) → Q (.bl b) S)))
def w_acceptsG (W : Addr) : WS := (wSeq (wIfS (wOr (wNot (wB (wCall (cIsi (.ty "tuple") (fTy "tuple" [])) (wCons (wV 0) (wCons (wC (.ty "tuple")) wNil))))) (wOr (wB (wO oEq (wCall cLen (wCons (wV 0) wNil)) (wC (.int 0)))) (wNot (wB (wCall (cIsi (.ty "str") (fTy "str" [])) (wCons (wO oIx (wV 0) (wC (.int 0))) (wCons (wC (.ty "str")) wNil))))))) (wRet (wC (.bl false))) wNext)
    (wSeq (wIfS (wB (wO oNe (wGGet [("parted", 3), ("barred", 3), ("long", 3), ("coloured", 3), ("apart", 3)] (wO oIx (wV 0) (wC (.int 0)))) (wCall cLen (wCons (wV 0) wNil)))) (wRet (wC (.bl false))) wNext)
    (wSeq (wAsg (wFn (sp_web_told W) [] (wCons (wO oIx (wV 0) (wC (.int 1))) wNil)) (gV 2))
    (wSeq (wIfS (wOr (wB (wO oIsN (wV 2) (wC .non))) (wNot (wB (wFn (sp_is_integerA W) [] (wCons (wO oIx (wV 0) (wC (.int 2))) wNil))))) (wRet (wC (.bl false))) wNext)
    (wSeq (wIfS (wB (wO oEq (wO oIx (wV 0) (wC (.int 0))) (wC (.str "parted")))) (wRet (wFn (sp_nv_parted W) [] (wCons (wV 2) (wCons (wO oIx (wV 0) (wC (.int 2))) (wCons (wV 1) wNil))))) wNext)
    (wSeq (wIfS (wB (wO oEq (wO oIx (wV 0) (wC (.int 0))) (wC (.str "barred")))) (wRet (wFn (sp_shows_barred W) [] (wCons (wV 2) (wCons (wO oIx (wV 0) (wC (.int 2))) (wCons (wV 1) wNil))))) wNext)
    (wSeq (wIfS (wB (wO oEq (wO oIx (wV 0) (wC (.int 0))) (wC (.str "long")))) (wRet (wFn (sp_nv_long W) [] (wCons (wV 2) (wCons (wO oIx (wV 0) (wC (.int 2))) (wCons (wV 1) wNil))))) wNext)
    (wSeq (wIfS (wB (wO oEq (wO oIx (wV 0) (wC (.int 0))) (wC (.str "coloured")))) (wRet (wFn (sp_shows_coloured W) [] (wCons (wV 2) (wCons (wO oIx (wV 0) (wC (.int 2))) (wCons (wV 1) wNil))))) wNext)
    (wRet (wFn (sp_shows_apart W) [] (wCons (wV 2) (wCons (wO oIx (wV 0) (wC (.int 2))) (wCons (wV 1) wNil)))))))))))))
theorem pure_acceptsG (W : Addr) : ∀ ds S Q E, sp_acceptsG W ds S Q E → w_acceptsG W (endsOf Q) (startD ["claim", "certificate", "web"] ds) S := by
  rintro ds S Q E ⟨w, ps, ts, n, d, m, rfl, ok, A, hm, hw⟩
  refine xFn ?_
  show w_acceptsG W _ [some _, some _, none] S
  unfold w_acceptsG
  and_intros
  refine isNB rfl ?_
  and_intros
  refine ixTup at0 ?_
  and_intros
  refine xGGet ?_
  and_intros
  refine ixTup at0 ?_
  and_intros
  refine ⟨w, rfl, ?_⟩
  have e3 : gval [("parted", 3), ("barred", 3), ("long", 3), ("coloured", 3), ("apart", 3)] w = .int 3 := by
    rcases hw with ⟨rfl, _⟩ | ⟨rfl, _⟩ | ⟨rfl, _⟩ <;> exact gval_some (by decide +kernel)
  rw [e3]
  and_intros
  refine isNB (by simp) ?_
  and_intros
  refine ixTup at1 ?_
  and_intros
  refine ⟨ps, ts, rfl, ok, ?_⟩
  and_intros
  refine isNB rfl ?_
  and_intros
  refine ixTup (atI_nat (j := 2) rfl) ?_
  and_intros
  refine ⟨1, .int n, rfl, .int n, ?_⟩
  refine isYB rfl ?_
  and_intros
  refine ixTup at0 ?_
  and_intros
  rcases hw with ⟨rfl, q⟩ | ⟨rfl, tu, q⟩ | ⟨rfl, q⟩
  · refine isNB (by decide +kernel) ?_
    and_intros
    refine ixTup at0 ?_
    and_intros
    refine isYB (by decide +kernel) ?_
    and_intros
    refine ixTup (atI_nat (j := 2) rfl) ?_
    and_intros
    exact ⟨ps, ts, n, d, m, rfl, ok, A, hm, fun b hb => cl (q b hb)⟩
  · refine isNB (by decide +kernel) ?_
    and_intros
    refine ixTup at0 ?_
    and_intros
    refine isNB (by decide +kernel) ?_
    and_intros
    refine ixTup at0 ?_
    and_intros
    refine isNB (by decide +kernel) ?_
    and_intros
    refine ixTup at0 ?_
    and_intros
    refine isYB (by decide +kernel) ?_
    and_intros
    refine ixTup (atI_nat (j := 2) rfl) ?_
    and_intros
    exact ⟨ps, ts, n, d, m, rfl, ok, A, tu, hm, fun b hb => cl (q b hb)⟩
  · refine isNB (by decide +kernel) ?_
    and_intros
    refine ixTup at0 ?_
    and_intros
    refine isNB (by decide +kernel) ?_
    and_intros
    refine ixTup at0 ?_
    and_intros
    refine isNB (by decide +kernel) ?_
    and_intros
    refine ixTup at0 ?_
    and_intros
    refine isNB (by decide +kernel) ?_
    and_intros
    refine ixTup (atI_nat (j := 2) rfl) ?_
    and_intros
    refine ⟨ps, ts, n, d, m, rfl, ok, A, ?_⟩
    rcases q with ⟨e, q⟩ | ⟨prs, e, hl, hp, q⟩
    · exact .inl ⟨e, cl q⟩
    · exact .inr ⟨prs, e, hl, hp, fun b hb => cl (q b hb)⟩
end
section
open PySem PySem.Spec PyProof.Rows
/-! ### caps bar: as mathematics -/
/-! ### drawn parts of a list -/
theorem lcDrawS {nt : NT} {tt : WT} {we : WE} {vs : List Nat} {sd : SD} {S : SO} {Q : KD} {xs : List Str} {q : Addr} {a b c : Int} (hq : S q = some (pan3 a b c)) (hl : xs.length ≤ 1000000)
    (hf : ∀ (i : Nat) (d : Str), xs[i]? = some d → ∀ (S' : SO) (a b c : Int), S' q = some (pan3 a b c) → putNT nt (.str d) (wipeD sd vs) fun sd2 => tt sd2 S' fun k S2 => (∃ a' b' c', S2 = S'.set q (pan3 a' b' c')) ∧ (k = true → we sd2 S2 fun y S3 => y = .str d ∧ S3 = S2))
    (hQ : ∀ (ys : List Str) (a b c : Int), ys.Sublist xs → Q (.lst (plD ys)) (S.set q (pan3 a b c))) : LcJ nt tt we vs (FrzR Q) sd ⟨plD xs, fun _ => True⟩ S := by
  intro p hp
  have hqp : q ≠ p := so_ne hq hp
  refine ⟨fun i S'' => ∃ a b c acc, S'' = (S.set q (pan3 a b c)).set p (.lst (plD acc)) ∧ i ≤ xs.length ∧ acc.Sublist (xs.take i), ⟨a, b, c, [], by rw [set_self hq]; rfl, Nat.zero_le _, by simp⟩, fun _ _ _ => trivial, ?_, ?_⟩
  · rintro i d S'' hd ⟨a, b, c, acc, rfl, hi, hP⟩
    have hd : (plD xs)[i]? = some d := hd
    rw [List.getElem?_map] at hd
    cases hx : xs[i]? with
    | none =>
      rw [hx] at hd
      cases hd
    | some z =>
      rw [hx] at hd
      cases hd
      have hil : i < xs.length := (List.getElem?_eq_some_iff.mp hx).1
      have h0 := hf i z hx ((S.set q (pan3 a b c)).set p (.lst (plD acc))) a b c (so_p hqp)
      refine putNT_mono h0 fun sd2 h => ⟨_, h, ?_⟩
      rintro k S2 ⟨⟨a', b', c', rfl⟩, hk⟩
      rw [so_pp hqp] at hk ⊢
      have tk : xs.take (i + 1) = xs.take i ++ [z] := by rw [List.take_succ, hx]; rfl
      have hal : acc.length ≤ i := Nat.le_trans hP.length_le (by rw [List.length_take]; omega)
      cases k with
      | false =>
        rw [if_neg Bool.false_ne_true]
        exact ⟨a', b', c', acc, rfl, hil, by rw [tk]; exact hP.trans (List.sublist_append_left ..)⟩
      | true =>
        rw [if_pos rfl]
        refine ⟨_, hk rfl, ?_⟩
        rintro y S3 ⟨rfl, rfl⟩
        refine ⟨plD acc, set_same, by rw [List.length_map]; omega, a', b', c', acc ++ [z], by rw [set_set]; unfold plD; rw [List.map_append]; rfl, hil, ?_⟩
        rw [tk]
        exact hP.append (List.Sublist.refl _)
  · rintro S'' ⟨a, b, c, acc, rfl, hi, hP⟩
    refine ⟨plD acc, set_same, ?_⟩
    rw [del_set (by rw [set_ne hqp.symm]; exact hp)]
    refine hQ acc a b c (hP.trans ?_)
    exact List.take_sublist ..
/-! ### the law's own count -/
/-! ### k61 -/
end
section
open PySem PySem.Spec PyProof.Rows
theorem xRB {S : SO} {Q : KD} {b : Bool} (h : Q (.str (boolS b)) S) : cReprB [.bl b] S Q := ⟨b, rfl, h⟩
end
section
open PySem PySem.Spec PyProof.Rows
def sp_cel_are_pl (W : Addr) : DSp := fun ds S Q E => ∃ (ts : List Str) (d : D) (m : Nat), ds = [.lst (plD ts), d] ∧ (∀ x ∈ ts, sOk x) ∧ AnyF m d ∧ m ≤ 1000 ∧ ∀ b : Bool, (b = true ↔ ArePl ts d) → Q (.bl b) S
def w_cel_are_pl (W : Addr) : WS := (wSeq (wIfS (wOr (wNot (wB (wCall (cIsi (.ty "tuple") (fTy "tuple" [])) (wCons (wV 1) (wCons (wC (.ty "tuple")) wNil))))) (wB (wO oNeL (wLcP (wSeqI (wV 1)) (.n 2) (wOr (wNot (wB (wCall (cIsi (.ty "str") (fTy "str" [])) (wCons (wV 2) (wCons (wC (.ty "str")) wNil))))) (wB (wO oNotIn (wV 2) (wV 0)))) (wV 2) [2]) (wLst wNil)))) (wRet (wC (.bl false))) wNext)
    (wRet (wO oEq (wLcP (wSeqI (wV 1)) (.n 2) (wB (wO oGt (wBMt mTCount (wV 1) (wCons (wV 2) wNil)) (wC (.int 1)))) (wV 2) [2]) (wLst wNil))))
theorem pure_cel_are_pl (W : Addr) : ∀ ds S Q E, sp_cel_are_pl W ds S Q E → w_cel_are_pl W (endsOf Q) (startD ["_law_labels_here", "_law_thing", "_law_each"] ds) S := by
  rintro ds S Q E ⟨ts, d, m, rfl, hsn, A, hm, q⟩
  refine xFn ?_
  show w_cel_are_pl W _ [some _, some _, none] S
  unfold w_cel_are_pl
  and_intros
  refine isiTupA ?_ A.any
  cases e : asTup d with
  | none =>
    refine isNB rfl ?_
    and_intros
    exact cl (q false ⟨fun h => (by cases h), fun ⟨r, h, _⟩ => by rw [e] at h; cases h⟩)
  | some xs =>
    obtain ⟨rfl, hl, hx⟩ := A.tup e
    refine isYB rfl ?_
    and_intros
    refine lcF xs (fun d => d) (fun x => !inB ts x) (fun d => d) ?_ (by omega) (fun x hxm S' e2 => ?_) ?_
    · and_intros
      exact srcX (by simp)
    · (simp only [prD, putNT, wipeD, putAll, List.set_cons_zero, List.set_cons_succ, List.length_cons, List.length_nil, true_and]; and_intros)
      refine isiStrA ?_ (hx x hxm).any
      cases ex : asStr x with
      | none =>
        refine isNB rfl ?_
        refine lcKT (by unfold inB; rw [ex]; rfl) ?_
        and_intros
        exact ⟨rfl, rfl⟩
      | some s =>
        have e3 := asStr_of ex
        subst e3
        refine isYB rfl ?_
        and_intros
        refine ninLst ?_ (hx _ hxm).any.sok hsn
        refine isCB (fun h => ?_) (fun h => ?_)
        · refine lcKT (by show (if (!decide (s ∈ ts)) = true then _ else _) = _; rw [h]; rfl) ?_
          and_intros
          exact ⟨rfl, rfl⟩
        · exact lcKF (by show (if (!decide (s ∈ ts)) = true then _ else _) = _; rw [h]; rfl)
    and_intros
    refine ⟨_, rfl, rfl, ?_⟩
    refine isCB (fun h1 => ?_) (fun h1 => ?_)
    · and_intros
      refine cl (q false ⟨fun h => (by cases h), fun ⟨r, h, _, hs⟩ => ?_⟩)
      have e5 : xs = plD r := Option.some.inj h
      subst e5
      have : ((plD r).filter fun x => !inB ts x) = [] := by
        rw [List.filter_eq_nil_iff]
        intro x hxm hh
        rw [List.all_eq_true.mp (all_inB hs) x hxm] at hh
        cases hh
      rw [this] at h1
      cases h1
    · have h2 : xs.all (inB ts) = true := by
        have h5 : (xs.filter fun x => !inB ts x) = [] := by simpa using h1
        rw [List.all_eq_true]
        intro x hxm
        have := List.filter_eq_nil_iff.mp h5 x hxm
        simpa using this
      obtain ⟨r, er, hr⟩ := inB_all h2
      subst er
      have hrl : (plD r).length = r.length := List.length_map ..
      rw [hrl] at hl
      and_intros
      refine lcF r D.str (fun x => decide (1 < r.count x)) D.str ?_ (by omega) (fun x hxr S' e2 => ?_) ?_
      · and_intros
        exact srcT
      · (simp only [prD, putNT, wipeD, putAll, List.set_cons_zero, List.set_cons_succ, List.length_cons, List.length_nil, true_and]; and_intros)
        refine xBMt ?_
        and_intros
        refine ⟨⟨_, rfl⟩, ?_⟩
        and_intros
        refine ⟨r, x, rfl, ⟨_, rfl⟩, rfl, ?_⟩
        and_intros
        have ed : decide ((1 : Int) < ((r.count x : Nat) : Int)) = decide (1 < r.count x) := decide_eq_decide.mpr (by omega)
        rw [ed]
        refine lcKI fun h => ?_
        and_intros
        exact ⟨rfl, rfl⟩
      and_intros
      refine eqNilS (xs := r.filter fun x => decide (1 < r.count x)) (fun x hx2 => hsn x (hr x (List.mem_filter.mp hx2).1)) ?_
      refine cl (q _ ?_)
      rw [List.isEmpty_iff, List.filter_eq_nil_iff]
      constructor
      · intro h
        refine ⟨r, rfl, List.nodup_iff_count.mpr fun x => ?_, hr⟩
        by_cases hxr : x ∈ r
        · have := h x hxr
          simpa using this
        · rw [List.count_eq_zero_of_not_mem hxr]
          exact Nat.zero_le _
      · rintro ⟨r2, h, nd, _⟩ x hxr hh
        have e5 := plD_inj (Option.some.inj h)
        subst e5
        rw [nd.count, if_pos hxr] at hh
        cases hh
theorem eqL0J {S : SO} {Q : KD} {d : D} {α : Type} {f : α → D} {g : α → PyData} {l : List α} (e : lstD S d = some (l.map f)) (hf : ∀ z ∈ l, pyD (f z) = some (g z)) (hs : SeqAt.shaped (.list (l.map g)) = true) (h : Q (.bl l.isEmpty) S) : oEq d (.lst []) S Q := by
  refine eqD_lst e ⟨.list (l.map g), .list [], pyS_lst e (pyDs_map hf), rfl, hs, by decide +kernel, ?_⟩
  cases l with
  | nil => exact h
  | cons x xs => exact h
theorem neIntL {S : SO} {Q : KD} {k : Int} (h : Q (.bl true) S) : oNe (.lst [.int k]) (.lst []) S Q := neL0 (f := D.int) (g := PyData.int) (l := [k]) rfl (fun _ _ => rfl) (shaped_list (n := 0) (by decide) (fun x _ => by simp [PyData.canLay0]) (fun x _ => by simp [PyData.depth])) h
theorem eqIntL {S : SO} {Q : KD} {k : Int} (h : Q (.bl false) S) : oEq (.lst [.int k]) (.lst []) S Q := eqL0J (f := D.int) (g := PyData.int) (l := [k]) rfl (fun _ _ => rfl) (shaped_list (n := 0) (by decide) (fun x _ => by simp [PyData.canLay0]) (fun x _ => by simp [PyData.depth])) h
theorem eqNil0 {S : SO} {Q : KD} (h : Q (.bl true) S) : oEq (.lst []) (.lst []) S Q := neNil (xs := []) rfl h
/-- how many roads a value bars, none if it is no caps -/
def BarO (ts : List Str) (es : List (Str × Str)) (d : D) : Option Int → Prop
  | some k => ∃ x y A B, asTup d = some [x, y] ∧ asTup x = some (plD A) ∧ asTup y = some (plD B) ∧ BarsN ts es A B ∧ k = (ts.length : Int) - (A.length : Int) - (B.length : Int)
  | none => ∀ n, ¬ IsBar ts es n d
theorem BarO.iff {ts : List Str} {es : List (Str × Str)} {d : D} {o : Option Int} (h : BarO ts es d o) (n : Int) : IsBar ts es n d ↔ ∃ k, o = some k ∧ n ≤ k := by
  cases o with
  | none => exact ⟨fun z => absurd z (h n), fun ⟨k, z, _⟩ => by cases z⟩
  | some k =>
    obtain ⟨x, y, A, B, e, ea, eb, b, hk⟩ := h
    constructor
    · rintro ⟨x', y', A', B', h, ha, hb, _, hn⟩
      rw [e] at h
      cases h
      rw [ea] at ha
      rw [eb] at hb
      have e1 := plD_inj (Option.some.inj ha)
      have e2 := plD_inj (Option.some.inj hb)
      subst e1 e2
      exact ⟨k, rfl, by omega⟩
    · rintro ⟨k', ek, hn⟩
      cases ek
      exact ⟨x, y, A, B, e, ea, eb, b, by omega⟩
def sp_cel_bars (W : Addr) : DSp := fun ds S Q E => ∃ (ts : List Str) (ls : List (Nat × Nat)) (d : D) (m : Nat), ds = [.lst (plD ts), .lst (ls.map ipD), d] ∧ NetI ts ls ∧ AnyF m d ∧ m ≤ 1000 ∧ ∀ o : Option Int, BarO ts (nmL ts ls) d o → Q (.lst (o.toList.map D.int)) S
def w_cel_bars (W : Addr) : WS := (wSeq (wIfS (wOr (wNot (wB (wCall (cIsi (.ty "tuple") (fTy "tuple" [])) (wCons (wV 2) (wCons (wC (.ty "tuple")) wNil))))) (wOr (wB (wO oNe (wCall cLen (wCons (wV 2) wNil)) (wC (.int 2)))) (wB (wO oNeL (wLcP (wSeqI (wV 2)) (.n 3) (wNot (wB (wFn (sp_cel_are_pl W) [] (wCons (wV 0) (wCons (wV 3) wNil))))) (wV 3) [3]) (wLst wNil))))) (wRet (wLst wNil)) wNext)
    (wSeq (wIfS (wB (wO oNe (wLcP (wSeqI (wV 1)) (.t [4, 5]) (wAnd (wB (wO oNotIn (wO oIx (wV 0) (wV 4)) (wO oIx (wV 2) (wC (.int 0))))) (wB (wO oNotIn (wO oIx (wV 0) (wV 5)) (wO oIx (wV 2) (wC (.int 1)))))) (wC (.int 1)) [4, 5]) (wLst wNil))) (wRet (wLst wNil)) wNext)
    (wRet (wLst (wCons (wO oSub (wO oSub (wCall cLen (wCons (wV 0) wNil)) (wCall cLen (wCons (wO oIx (wV 2) (wC (.int 0))) wNil))) (wCall cLen (wCons (wO oIx (wV 2) (wC (.int 1))) wNil))) wNil)))))
theorem pure_cel_bars (W : Addr) : ∀ ds S Q E, sp_cel_bars W ds S Q E → w_cel_bars W (endsOf Q) (startD ["_law_labels_here", "_law_links_here", "_law_thing", "_law_part", "_law_a", "_law_b"] ds) S := by
  rintro ds S Q E ⟨ts, ls, d, m, rfl, N, A, hm, q⟩
  have hsn : ∀ y ∈ ts, sOk y := fun y hy => N.web.sok y hy
  have htl := N.few
  have hll := N.lfew
  refine xFn ?_
  show w_cel_bars W _ [some _, some _, some _, none, none, none] S
  unfold w_cel_bars
  and_intros
  refine isiTupA ?_ A.any
  cases e : asTup d with
  | none =>
    refine isNB rfl ?_
    and_intros
    exact cl (q none fun n ⟨_, _, _, _, h, _⟩ => by rw [e] at h; cases h)
  | some xs =>
    obtain ⟨rfl, hl, hx⟩ := A.tup e
    refine isYB rfl ?_
    and_intros
    refine isND (fun h2 => ?_) (fun h2 => ?_)
    · obtain ⟨x, y, rfl⟩ : ∃ x y, xs = [x, y] := by
        match xs, h2 with
        | [x, y], _ => exact ⟨x, y, rfl⟩
        | [], h2 => simp at h2
        | [_], h2 => simp at h2
        | _ :: _ :: _ :: _, h2 => simp at h2; omega
      and_intros
      refine lcF [x, y] (fun d => d) (fun z => !areB ts z) (fun d => d) ?_ (by simp) (fun z hz S' e2 => ?_) ?_
      · and_intros
        exact srcX (by simp)
      · (simp only [prD, putNT, wipeD, putAll, List.set_cons_zero, List.set_cons_succ, List.length_cons, List.length_nil, true_and]; and_intros)
        refine ⟨ts, z, m, rfl, hsn, hx z hz, hm, fun b hb => ?_⟩
        have eb := areB_eq hb
        refine isCB (fun h => ?_) (fun h => ?_)
        · exact lcKF (by rw [← eb, h]; rfl)
        · refine lcKT (by rw [← eb, h]; rfl) ?_
          and_intros
          exact ⟨rfl, rfl⟩
      and_intros
      refine ⟨_, rfl, rfl, ?_⟩
      refine isCB (fun h3 => ?_) (fun h3 => ?_)
      · and_intros
        refine cl (q none fun n ⟨x', y', A', B', h, ha, hb, bb, _⟩ => ?_)
        cases h
        have h4 := areB_iff.mpr (⟨A', ha, bb.na, bb.sa⟩ : ArePl ts x)
        have h5 := areB_iff.mpr (⟨B', hb, bb.nb, bb.sb⟩ : ArePl ts y)
        have h6 : (List.filter (fun z => !areB ts z) [x, y]) = [] := by
          rw [List.filter_cons, h4, List.filter_cons, h5]
          rfl
        rw [h6] at h3
        cases h3
      · have h6 : (List.filter (fun z => !areB ts z) [x, y]) = [] := by simpa using h3
        have h7 := List.filter_eq_nil_iff.mp h6
        have h8 : areB ts x = true := by simpa using h7 x (by simp)
        have h9 : areB ts y = true := by simpa using h7 y (by simp)
        obtain ⟨a, ea, na, sa⟩ := areB_iff.mp h8
        obtain ⟨b, eb, nb, sb⟩ := areB_iff.mp h9
        obtain ⟨ex, lx, _⟩ := (hx x (by simp)).tup ea
        obtain ⟨ey, ly, _⟩ := (hx y (by simp)).tup eb
        subst ex ey
        and_intros
        refine lcF ls ipD (fun t => !decide (ts.getD t.1 Str.empty ∈ a) && !decide (ts.getD t.2 Str.empty ∈ b)) (fun _ => .int 1) ?_ (by omega) (fun t ht S' e => ?_) ?_
        · and_intros
          exact srcT
        · obtain ⟨g1, g2, _⟩ := N.ok t ht
          unfold ipD
          (simp only [prD, putNT, wipeD, putAll, List.set_cons_zero, List.set_cons_succ, List.length_cons, List.length_nil, true_and]; and_intros)
          refine ixLst (atM (l := ts) (f := D.str) (getD_get g1)) ?_
          and_intros
          refine ixTf at0 ?_
          refine ninTf ?_ (hsn _ (List.mem_of_getElem? (getD_get g1))) (fun y hy => hsn y (sa y hy))
          refine isCB (fun h => ?_) fun h => ?_
          · and_intros
            refine ixLst (atM (l := ts) (f := D.str) (getD_get g2)) ?_
            and_intros
            refine ixTf at1 ?_
            refine ninTf ?_ (hsn _ (List.mem_of_getElem? (getD_get g2))) (fun y hy => hsn y (sb y hy))
            refine isCB (fun h' => ?_) fun h' => ?_
            · refine lcKT (by rw [h, h']; rfl) ?_
              and_intros
              exact ⟨rfl, rfl⟩
            · exact lcKF (by rw [h, h']; rfl)
          · exact lcKF (by rw [h]; rfl)
        and_intros
        generalize hf : (ls.filter fun t => !decide (ts.getD t.1 Str.empty ∈ a) && !decide (ts.getD t.2 Str.empty ∈ b)) = fl
        have hcov : fl = [] ↔ ∀ t ∈ nmL ts ls, t.1 ∈ a ∨ t.2 ∈ b := by
          rw [← hf, List.filter_eq_nil_iff]
          constructor
          · intro h t ht
            obtain ⟨u, hu, rfl⟩ := List.mem_map.mp ht
            have := h u hu
            simp only [Bool.and_eq_true, Bool.not_eq_true', decide_eq_false_iff_not, not_and, Decidable.not_not] at this
            by_cases hc : ts.getD u.1 Str.empty ∈ a
            · exact .inl hc
            · exact .inr (this hc)
          · intro h u hu hh
            simp only [Bool.and_eq_true, Bool.not_eq_true', decide_eq_false_iff_not] at hh
            rcases h (nmT ts u) (List.mem_map.mpr ⟨u, hu, rfl⟩) with z | z
            · exact hh.1 z
            · exact hh.2 z
        refine neNil (xs := fl.map fun _ => 1) (by
          show some _ = some _
          rw [List.map_map]
          rfl) ?_
        refine isCB (fun h10 => ?_) (fun h10 => ?_)
        · and_intros
          refine cl (q none fun n ⟨x', y', A', B', h, ha, hb, bb, _⟩ => ?_)
          cases h
          have e1 := plD_inj (Option.some.inj ha)
          have e2 := plD_inj (Option.some.inj hb)
          subst e1 e2
          rw [hcov.mpr bb.cov] at h10
          cases h10
        · have hfl : fl = [] := by simpa using h10
          and_intros
          refine ixTf at0 ?_
          and_intros
          refine ixTf at1 ?_
          and_intros
          exact cl (q (some _) ⟨_, _, a, b, rfl, rfl, rfl, ⟨na, nb, sa, sb, hcov.mp hfl⟩, rfl⟩)
    · and_intros
      refine cl (q none fun n ⟨_, _, _, _, h, _⟩ => ?_)
      cases h
      exact absurd rfl h2
def sp_cel_barR (W : Addr) : DSp := fun ds S Q E => ∃ (p : Addr) (a b c : Int) (ts : List Str) (ls : List (Nat × Nat)), ds = [.obj p, .lst (plD ts), .lst (ls.map ipD), .str (pageOf ts (nmL ts ls))] ∧ S p = some (pan3 a b c) ∧ NetI ts ls ∧ ∀ a b c : Int, Q (.bl true) (S.set p (pan3 a b c))
def w_cel_barR (W : Addr) : WS := (wSeq (wAsg (wCall cTupleF (wCons (wLcF (wSeqI (wV 1)) (.n 10) (wB (wO oEq (wFn (sp_cel_sip W) [] (wCons (wV 0) (wCons (wC (.int 2)) wNil))) (wC (.int 0)))) (wV 10) [10]) wNil)) (gV 4))
    (wSeq (wAsg (wLcP (wSeqI (wV 2)) (.t [11, 12]) (wB (wO oNotIn (wO oIx (wV 1) (wV 11)) (wV 4))) (wO oIx (wV 1) (wV 12)) [11, 12]) (gV 5))
    (wSeq (wAsg (wTupF (wCons (wV 4) (wCons (wCall cTupleF (wCons (wLcP (wSeqI (wV 1)) (.n 10) (wB (wO oIn (wV 10) (wV 5))) (wV 10) [10]) wNil)) wNil))) (gV 6))
    (wSeq (wAsg (wIf (wB (wO oEq (wFn (sp_cel_sip W) [] (wCons (wV 0) (wCons (wC (.int 3)) wNil))) (wC (.int 0)))) (wV 6) (wFn (sp_cel_bentL W) [] (wCons (wV 0) (wCons (wV 6) (wCons (wV 1) wNil))))) (gV 6))
    (wSeq (wAsg (wFn (sp_cel_bars W) [] (wCons (wV 1) (wCons (wV 2) (wCons (wV 6) wNil)))) (gV 7))
    (wSeq (wAsg (wIf (wB (wO oEq (wV 7) (wLst wNil))) (wC (.int 0)) (wO oIx (wV 7) (wC (.int 0)))) (gV 8))
    (wSeq (wFor (wSeqI (wLst (wCons (wV 8) (wCons (wO oAdd (wV 8) (wC (.int 1))) (wCons (wO oSub (wV 8) (wC (.int 1))) (wCons (wU oNeg (wC (.int 99))) wNil)))))) (gV 9) (wIfS (wB (wO oNe (wCall cReprB (wCons (wFn (sp_acceptsG W) [] (wCons (wTup (wCons (wC (.str "barred")) (wCons (wV 3) (wCons (wV 9) wNil)))) (wCons (wV 6) wNil))) wNil)) (wCall cReprB (wCons (wAndV (wO oNe (wV 7) (wLst wNil)) (wO oLe (wV 9) (wV 8))) wNil)))) (wRet (wC (.bl false))) wNext))
    (wRet (wC (.bl true))))))))))
theorem pure_cel_barR (W : Addr) : ∀ ds S Q E, sp_cel_barR W ds S Q E → w_cel_barR W (endsOf Q) (startD ["_law_cup_here", "_law_labels_here", "_law_links_here", "_law_page", "_law_begins", "_law_spare", "_law_thing", "_law_told", "_law_bars_here", "_law_far", "_law_label", "_law_a", "_law_b"] ds) S := by
  rintro ds S Q E ⟨p, a, b, c, ts, ls, rfl, hp, N, q⟩
  have htl := N.few
  have hll := N.lfew
  have htp := N.pos
  have hs : ∀ x ∈ ts, sOk x := fun x hx => name_sOk (N.nm.1 x hx)
  have hs2 : ∀ x ∈ ts, sOk x ∧ x.length ≤ 100 := fun x hx => ⟨hs x hx, by have := (name_chars (N.nm.1 x hx)).2.1; omega⟩
  have htn : ts ≠ [] := List.length_pos_iff.mp htp
  refine xFn ?_
  show w_cel_barR W _ [some _, some _, some _, some _, none, none, none, none, none, none, none, none, none] S
  unfold w_cel_barR
  and_intros
  refine lcDrawS (q := p) hp (by omega) (fun j d hd S' a b c hS => ?_) (fun A a b c hA => ?_)
  · (simp only [prD, putNT, wipeD, putAll, List.set_cons_zero, List.set_cons_succ, List.length_cons, List.length_nil, true_and]; and_intros)
    refine ⟨p, a, b, c, 2, rfl, hS, by decide, by decide, fun r a b c h1 h2 => ?_⟩
    and_intros
    refine isCB (fun h => ?_) (fun h => ?_)
    · exact ⟨⟨_, _, _, rfl⟩, fun _ => by
        and_intros
        exact ⟨rfl, rfl⟩⟩
    · exact ⟨⟨_, _, _, rfl⟩, fun h => nomatch h⟩
  have hAs : ∀ x ∈ A, x ∈ ts := fun x hx => hA.subset hx
  have hAl : A.length ≤ ts.length := hA.length_le
  and_intros
  refine lcF ls ipD (fun t => !decide (ts.getD t.1 Str.empty ∈ A)) (fun t => .str (ts.getD t.2 Str.empty)) ?_ (by omega) (fun t ht S' e => ?_) ?_
  · and_intros
    exact srcT
  · obtain ⟨g1, g2, _⟩ := N.ok t ht
    unfold ipD
    (simp only [prD, putNT, wipeD, putAll, List.set_cons_zero, List.set_cons_succ, List.length_cons, List.length_nil, true_and]; and_intros)
    refine ixLst (atM (l := ts) (f := D.str) (getD_get g1)) ?_
    and_intros
    refine ninTf ?_ (hs _ (List.mem_of_getElem? (getD_get g1))) fun y hy => hs y (hAs y hy)
    refine lcKI fun h => ?_
    and_intros
    refine ixLst (atM (l := ts) (f := D.str) (getD_get g2)) ?_
    exact ⟨rfl, rfl⟩
  generalize hsp : ((ls.filter fun t => !decide (ts.getD t.1 Str.empty ∈ A)).map fun t => ts.getD t.2 Str.empty) = sp
  have hsps : ∀ x ∈ sp, sOk x := fun x hx => by
    rw [← hsp] at hx
    obtain ⟨t, ht, rfl⟩ := List.mem_map.mp hx
    obtain ⟨g1, g2, _⟩ := N.ok t (List.mem_filter.mp ht).1
    exact hs _ (List.mem_of_getElem? (getD_get g2))
  rw [show ((ls.filter fun t => !decide (ts.getD t.1 Str.empty ∈ A)).map fun t => D.str (ts.getD t.2 Str.empty)) = plD sp by rw [← hsp]; unfold plD; rw [List.map_map]; rfl]
  and_intros
  refine lcF ts D.str (fun x => decide (x ∈ sp)) D.str ?_ (by omega) (fun x hx S' e => ?_) ?_
  · and_intros
    exact srcT
  · (simp only [prD, putNT, wipeD, putAll, List.set_cons_zero, List.set_cons_succ, List.length_cons, List.length_nil, true_and]; and_intros)
    refine inLst ?_ (hs x hx) hsps
    refine lcKI fun h => ?_
    and_intros
    exact ⟨rfl, rfl⟩
  generalize hB : (ts.filter fun x => decide (x ∈ sp)) = B
  have hBs : ∀ x ∈ B, x ∈ ts := fun x hx => by
    rw [← hB] at hx
    exact (List.mem_filter.mp hx).1
  have hBl : B.length ≤ ts.length := by
    rw [← hB]
    exact List.length_filter_le ..
  have thA : AnyF 100 (.tf [rowT A, rowT B]) := .tf _ (by simp) fun x hx => by
    simp only [List.mem_cons, List.not_mem_nil, or_false] at hx
    rcases hx with rfl | rfl
    · exact anyF_row (fun x hx => hs2 x (hAs x hx)) (by omega)
    · exact anyF_row (fun x hx => hs2 x (hBs x hx)) (by omega)
  and_intros
  generalize hN : wSeq (wAsg (wFn (sp_cel_bars W) _ _) _) _ _ = Nx
  have rest : ∀ (d : D) (a b c : Int), AnyF 100 d → Nx [some (.obj p), some (.lst (plD ts)), some (.lst (ls.map ipD)), some (.str (pageOf ts (nmL ts ls))), some (.tf (plD A)), some (.lst (plD sp)), some d, none, none, none, none, none, none] (S.set p (pan3 a b c)) := by
    intro d a b c A'
    subst hN
    and_intros
    refine ⟨ts, ls, d, 100, rfl, N, A', by decide, fun o ho => ?_⟩
    and_intros
    generalize hM : wSeq (wFor _ _ _) _ _ = Mx
    have hbars : ∀ (k : Int), (o = none → k = 0) → (∀ x, o = some x → k = x) → Mx [some (.obj p), some (.lst (plD ts)), some (.lst (ls.map ipD)), some (.str (pageOf ts (nmL ts ls))), some (.tf (plD A)), some (.lst (plD sp)), some d, some (.lst (o.toList.map D.int)), some (.int k), none, none, none, none] (S.set p (pan3 a b c)) := by
      intro k hk0 hk1
      subst hM
      and_intros
      refine forJ [k, k + 1, k - 1, -99] D.int (fun x : Option D => [some (.obj p), some (.lst (plD ts)), some (.lst (ls.map ipD)), some (.str (pageOf ts (nmL ts ls))), some (.tf (plD A)), some (.lst (plD sp)), some d, some (.lst (o.toList.map D.int)), some (.int k), x, none, none, none]) (fun _ => S.set p (pan3 a b c)) (fun _ _ => True) none trivial ?_ ?_
      · rintro j far x hf -
        and_intros
        refine ⟨"barred", ts, nmL ts ls, far, d, 100, rfl, N.web, A'.any, by decide, .inl ⟨rfl, fun bb hb => ?_⟩⟩
        and_intros
        refine xRB ?_
        and_intros
        have eb : bb = true ↔ ∃ k, o = some k ∧ far ≤ k := hb.trans (ho.iff far)
        cases o with
        | none =>
          refine neNil (xs := []) rfl ?_
          refine isNB rfl ?_
          and_intros
          refine xRB ?_
          have e2 : bb = false := by
            cases bb with
            | false => rfl
            | true =>
              obtain ⟨k, z, _⟩ := eb.mp rfl
              cases z
          subst e2
          refine neBoolS ?_
          refine isNB rfl ?_
          and_intros
          exact .of (some (.int far)) trivial
        | some k' =>
          have ek := hk1 k' rfl
          subst ek
          refine neIntL ?_
          refine isYB rfl ?_
          and_intros
          refine xRB ?_
          have e2 : bb = decide (far ≤ k) := Bool.eq_iff_iff.mpr (by
            rw [eb, decide_eq_true_iff]
            exact ⟨fun ⟨z, h, hz⟩ => by cases h; exact hz, fun h => ⟨k, rfl, h⟩⟩)
          subst e2
          refine neBoolS ?_
          refine isNB (by simp) ?_
          and_intros
          exact .of (some (.int far)) trivial
      · rintro x -
        and_intros
        exact cl (q a b c)
    cases o with
    | none =>
      refine eqNil0 ?_
      refine isYB rfl ?_
      and_intros
      exact hbars 0 (fun _ => rfl) (fun x h => by cases h)
    | some k =>
      refine eqIntL ?_
      refine isNB rfl ?_
      and_intros
      refine ixLst at0 ?_
      and_intros
      exact hbars k (fun h => by cases h) (fun x h => by cases h; rfl)
  refine sipC (m := 3) set_same (by decide) (by decide) fun r _ a b c => ?_
  rw [set_set]
  and_intros
  refine isD (fun h => ?_) (fun h => ?_)
  · and_intros
    exact rest _ a b c thA
  · and_intros
    refine ⟨p, a, b, c, [A, B], ts, rfl, set_same, by simp, fun r hr => ?_, htn, by omega, hs2, fun d a b c A' => ?_⟩
    · simp only [List.mem_cons, List.not_mem_nil, or_false] at hr
      rcases hr with rfl | rfl
      · exact ⟨by omega, fun x hx => hs2 x (hAs x hx)⟩
      · exact ⟨by omega, fun x hx => hs2 x (hBs x hx)⟩
    · rw [set_set]
      and_intros
      exact rest d a b c A'
end
section
open PySem PySem.Spec PyProof.Rows
/-- drawn elements, the list an object -/
theorem lcDrawO {nt : NT} {we : WE} {vs : List Nat} {sd : SD} {S : SO} {R : Addr → SO → Prop} {xs : List D} {q : Addr} {a b c : Int} (P : D → Prop) (hq : S q = some (pan3 a b c)) (hl : xs.length ≤ 1000000)
    (hf : ∀ (i : Nat) (d : D), xs[i]? = some d → ∀ (S' : SO) (a b c : Int), S' q = some (pan3 a b c) → putNT nt d (wipeD sd vs) fun sd2 => we sd2 S' fun y S3 => P y ∧ ∃ a' b' c', S3 = S'.set q (pan3 a' b' c'))
    (hQ : ∀ (g : Addr) (ys : List D) (a b c : Int), S g = none → q ≠ g → ys.length = xs.length → (∀ y ∈ ys, P y) → R g ((S.set q (pan3 a b c)).set g (.lst ys))) : LcJ nt wYes we vs R sd ⟨xs, fun _ => True⟩ S := by
  intro p hp
  have hqp : q ≠ p := so_ne hq hp
  refine ⟨fun i S'' => ∃ a b c acc, S'' = (S.set q (pan3 a b c)).set p (.lst acc) ∧ acc.length = i ∧ i ≤ xs.length ∧ ∀ y ∈ acc, P y, ⟨a, b, c, [], by rw [set_self hq], rfl, Nat.zero_le _, by simp⟩, fun _ _ _ => trivial, ?_, ?_⟩
  · rintro i d S'' hd ⟨a, b, c, acc, rfl, hacc, hi, hP⟩
    have hil : i < xs.length := (List.getElem?_eq_some_iff.mp hd).1
    have h0 := hf i d hd ((S.set q (pan3 a b c)).set p (.lst acc)) a b c (so_p hqp)
    refine putNT_mono h0 fun sd2 h => ?_
    refine upYesT ?_
    rw [if_pos rfl]
    refine ⟨_, h, ?_⟩
    rintro y S3 ⟨py, a', b', c', rfl⟩
    rw [so_pp hqp]
    refine ⟨acc, set_same, by omega, a', b', c', acc ++ [y], by rw [set_set], by rw [List.length_append, hacc]; rfl, hil, fun z hz => ?_⟩
    rcases List.mem_append.mp hz with hz | hz
    · exact hP z hz
    · rw [List.mem_singleton.mp hz]
      exact py
  · rintro S'' ⟨a, b, c, acc, rfl, hacc, hi, hP⟩
    exact hQ p acc a b c hp hqp hacc hP
/-- a number, a truth, None, a short text -/
inductive Sc : D → Prop
  | non : Sc .non
  | bl (b : Bool) : Sc (.bl b)
  | int (i : Int) : Sc (.int i)
  | str (x : Str) (h : PyData.canLay0 (.str x) = true ∧ x.length ≤ 100) : Sc (.str x)
theorem Sc.any {d : D} (h : Sc d) : Any 100 d := by
  cases h with
  | non => exact .non
  | bl b => exact .bl b
  | int i => exact .int i
  | str x h => exact .str x h
theorem eqScal {S : SO} {Q : KD} {l : List D} (hl : ∀ x ∈ l, Sc x) (h : Q (.bl l.isEmpty) S) : oEq (.lst l) (.lst []) S Q := by
  have key : ∀ l : List D, (∀ x ∈ l, Sc x) → ∃ ps : List PyData, pyDs l = some ps ∧ ps.length = l.length ∧ (∀ p ∈ ps, p.canLay0 = true) ∧ ∀ p ∈ ps, p.depth ≤ 0 := fun l => by
    induction l with
    | nil => exact fun _ => ⟨[], rfl, rfl, by simp, by simp⟩
    | cons x l ih =>
      intro hs
      obtain ⟨ps, e, hl, h1, h2⟩ := ih fun y hy => hs y (List.mem_cons_of_mem _ hy)
      have hx := hs x (List.mem_cons_self ..)
      obtain ⟨p, ep, c1, c2⟩ : ∃ p, pyD x = some p ∧ p.canLay0 = true ∧ p.depth ≤ 0 := by
        cases hx with
        | non => exact ⟨.none, rfl, by simp [PyData.canLay0], by simp [PyData.depth]⟩
        | bl b => exact ⟨.bool b, rfl, by simp [PyData.canLay0], by simp [PyData.depth]⟩
        | int i => exact ⟨.int i, rfl, by simp [PyData.canLay0], by simp [PyData.depth]⟩
        | str x h => exact ⟨.str x, rfl, h.1, by simp [PyData.depth]⟩
      refine ⟨p :: ps, by unfold pyDs; rw [ep, e]; rfl, by rw [List.length_cons, hl, List.length_cons], fun y hy => ?_, fun y hy => ?_⟩
      · rcases List.mem_cons.mp hy with rfl | hy
        · exact c1
        · exact h1 y hy
      · rcases List.mem_cons.mp hy with rfl | hy
        · exact c2
        · exact h2 y hy
  obtain ⟨ps, e, hlen, h1, h2⟩ := key l hl
  have sh : SeqAt.shaped (.list ps) = true := by
    have := shaped_list (f := fun p : PyData => p) (n := 0) (xs := ps) (by decide) h1 h2
    rwa [List.map_id'] at this
  refine ⟨.list ps, .list [], by show (pyDs l).map PyData.list = _; rw [e]; rfl, rfl, sh, by decide +kernel, ?_⟩
  cases ps with
  | nil =>
    have : l = [] := List.length_eq_zero_iff.mp hlen.symm
    subst this
    exact h
  | cons p ps =>
    cases l with
    | nil => simp at hlen
    | cons x l => exact h
theorem clrK_ix : ∀ {ps : List Str} {ns : List Int} {i : Nat} {x : Str} {k : Int}, ps.Nodup → ps[i]? = some x → ns[i]? = some k → dget (clrK ps ns) (.str x) = some (.int k)
  | [], _, i, x, k, _, h, _ => by simp at h
  | _ :: _, [], i, x, k, _, _, h => by simp at h
  | p :: ps, n :: ns, 0, x, k, nd, h1, h2 => by
    cases h1
    cases h2
    show dget ((D.str p, D.int n) :: clrK ps ns) (.str p) = _
    rw [dget_cons, if_pos rfl]
  | p :: ps, n :: ns, i + 1, x, k, nd, h1, h2 => by
    obtain ⟨n1, n2⟩ := List.nodup_cons.mp nd
    have h1 : ps[i]? = some x := h1
    show dget ((D.str p, D.int n) :: clrK ps ns) (.str x) = _
    rw [dget_cons, if_neg (fun e => n1 (by
      injection e with e
      rw [e]
      exact List.mem_of_getElem? h1))]
    exact clrK_ix n2 h1 h2
def sp_cel_colR (W : Addr) : DSp := fun ds S Q E => ∃ (p : Addr) (a b c : Int) (ts : List Str) (ls : List (Nat × Nat)), ds = [.obj p, .lst (plD ts), .lst (ls.map ipD), .str (pageOf ts (nmL ts ls))] ∧ S p = some (pan3 a b c) ∧ NetI ts ls ∧ ∀ a b c : Int, Q (.bl true) (S.set p (pan3 a b c))
def w_cel_colR (W : Addr) : WS := (wSeq (wAsg (wCall cLen (wCons (wV 1) wNil)) (gV 4))
    (wSeq (wAsg (wLc (wRng1 (wCons (wV 4) wNil)) (.n 9) wYes (wO oAdd (wC (.int 1)) (wFn (sp_cel_sip W) [] (wCons (wV 0) (wCons (wV 4) wNil)))) [9]) (gV 5))
    (wSeq (wCl (wIfS (wB (wO oEq (wFn (sp_cel_sip W) [] (wCons (wV 0) (wCons (wC (.int 2)) wNil))) (wC (.int 0)))) (wAsg (wLstR2O (wC (.int 1)) (wO oAdd (wV 4) (wC (.int 1)))) (gV 5)) wNext))
    (wSeq (wIfS (wB (wO oEq (wFn (sp_cel_sip W) [] (wCons (wV 0) (wCons (wC (.int 4)) wNil))) (wC (.int 0)))) (wAsg (wO oIx (wLst (wCons (wC (.int 0)) (wCons (wU oNeg (wC (.int 1))) (wCons (wC (.bl true)) (wCons (wC .non) (wCons (wC (.str "1")) (wCons (wO oPow (wC (.int 10)) (wC (.int 20))) wNil))))))) (wFn (sp_cel_sip W) [] (wCons (wV 0) (wCons (wC (.int 6)) wNil)))) (gSubD (wV 5) (wFn (sp_cel_sip W) [] (wCons (wV 0) (wCons (wV 4) wNil))) sSub)) wNext)
    (wSeq (wCl (wAsg (wO oIx (wLst (wCons (wCall cTuple (wCons (wV 5) wNil)) (wCons (wCall cTuple (wCons (wV 5) wNil)) (wCons (wCall cTuple (wCons (wV 5) wNil)) (wCons (wV 5) (wCons (wCall cTuple (wCons (wSl (wV 5) (pSome (wC (.int 1))) pNone) wNil)) wNil)))))) (wFn (sp_cel_sip W) [] (wCons (wV 0) (wCons (wC (.int 5)) wNil)))) (gV 5)))
    (wSeq (wAsg (wAndV (wCall (cIsi (.ty "tuple") (fTy "tuple" [])) (wCons (wV 5) (wCons (wC (.ty "tuple")) wNil))) (wO oEq (wCall cLen (wCons (wV 5) wNil)) (wV 4))) (gV 6))
    (wSeq (wIfS (wB (wV 6)) (wAsg (wO oEq (wLcP (wSeqI (wV 5)) (.n 10) (wOr (wNot (wB (wCall (cIsi (.ty "int") (fTy "int" [])) (wCons (wV 10) (wCons (wC (.ty "int")) wNil))))) (wOr (wB (wCall (cIsi (.ty "bool") (fTy "bool" [])) (wCons (wV 10) (wCons (wC (.ty "bool")) wNil)))) (wB (wO oLt (wV 10) (wC (.int 1)))))) (wV 10) [10]) (wLst wNil)) (gV 6)) wNext)
    (wSeq (wIfS (wB (wV 6)) (wAsg (wO oEq (wLcP (wSeqI (wV 2)) (.t [11, 12]) (wB (wO oEq (wO oIx (wV 5) (wV 11)) (wO oIx (wV 5) (wV 12)))) (wC (.int 1)) [11, 12]) (wLst wNil)) (gV 6)) wNext)
    (wSeq (wFor (wSeqI (wLst (wCons (wC (.int 1)) (wCons (wV 4) (wCons (wO oSub (wV 4) (wC (.int 1))) (wCons (wO oPow (wC (.int 10)) (wC (.int 20))) wNil)))))) (gV 7) (wSeq (wAsg (wAndV (wV 6) (wO oLe (wCall cMaxT (wCons (wV 5) wNil)) (wV 7))) (gV 8))
    (wIfS (wB (wO oNe (wCall cReprB (wCons (wFnK (sp_acceptsG W) perm_10 wNil (wCons (wV 5) (wCons (wTup (wCons (wC (.str "coloured")) (wCons (wV 3) (wCons (wV 7) wNil)))) wNil))) wNil)) (wCall cReprB (wCons (wV 8) wNil)))) (wRet (wC (.bl false))) wNext)))
    (wRet (wC (.bl true))))))))))))
theorem pure_cel_colR (W : Addr) : ∀ ds S Q E, sp_cel_colR W ds S Q E → w_cel_colR W (endsOf Q) (startD ["_law_cup_here", "_law_labels_here", "_law_links_here", "_law_page", "_law_many", "_law_thing", "_law_is_good", "_law_far", "_law_due", "_law_k", "_law_each", "_law_a", "_law_b"] ds) S := by
  rintro ds S Q E ⟨p, a, b, c, ts, ls, rfl, hp, N, q⟩
  have htl := N.few
  have hll := N.lfew
  have htp := N.pos
  refine xFn ?_
  show w_cel_colR W _ [some _, some _, some _, some _, none, none, none, none, none, none, none, none, none] S
  unfold w_cel_colR
  and_intros
  refine rng1N (by omega) ?_
  refine lcDrawO (q := p) Sc hp (by rw [rangeN, List.length_map, List.length_range]; omega) (fun i d hd S' a b c hS => ?_) (fun g xs a b c hg hpg hxl hxs => ?_)
  · (simp only [prD, putNT, wipeD, putAll, List.set_cons_zero, List.set_cons_succ, List.length_cons, List.length_nil, true_and]; and_intros)
    refine sipC (m := ts.length) hS htp (by omega) fun r _ a b c => ?_
    and_intros
    exact ⟨.int _, _, _, _, rfl⟩
  rw [rangeN, List.length_map, List.length_range] at hxl
  and_intros
  generalize hN4 : wSeq (wIfS _ _ _) _ _ = N4
  have rest4 : ∀ (g : Addr) (xs : List D) (a b c : Int), S g = none → p ≠ g → xs.length = ts.length → (∀ x ∈ xs, Sc x) → N4 [some (.obj p), some (.lst (plD ts)), some (.lst (ls.map ipD)), some (.str (pageOf ts (nmL ts ls))), some (.int (ts.length : Nat)), some (.obj g), none, none, none, none, none, none, none] ((S.set p (pan3 a b c)).set g (.lst xs)) := by
    intro g xs a b c hg hpg hxl hxs
    subst hN4
    and_intros
    refine sipC (m := 4) (so_p hpg) (by decide) (by decide) fun r _ a b c => ?_
    rw [so_pp hpg]
    and_intros
    generalize hN5 : wSeq (wCl _) _ _ = N5
    have rest5 : ∀ (xs : List D) (a b c : Int), xs.length = ts.length → (∀ x ∈ xs, Sc x) → N5 [some (.obj p), some (.lst (plD ts)), some (.lst (ls.map ipD)), some (.str (pageOf ts (nmL ts ls))), some (.int (ts.length : Nat)), some (.obj g), none, none, none, none, none, none, none] ((S.set p (pan3 a b c)).set g (.lst xs)) := by
      intro xs a b c hxl hxs
      subst hN5
      and_intros
      have tg : ∀ {Q : KD}, Q (.tup xs) ((S.set p (pan3 a b c)).set g (.lst xs)) → cTuple [.obj g] ((S.set p (pan3 a b c)).set g (.lst xs)) Q := fun {Q} h => ⟨xs, show objL _ = _ by rw [set_same]; rfl, h⟩
      refine tg ?_
      and_intros
      refine tg ?_
      and_intros
      refine tg ?_
      and_intros
      refine slObj set_same ?_
      rw [show cutD xs (some 1) none = xs.drop 1 from cutLo (k := 1)]
      and_intros
      refine sipC (m := 5) (so_p hpg) (by decide) (by decide) fun r hr a b c => ?_
      rw [so_pp hpg]
      and_intros
      generalize hN6 : wSeq (wAsg (wAndV _ _) _) _ _ = N6
      have rest6 : ∀ (d : D) (a b c : Int), Any 100 d → (asTup d = none ∨ ∃ ys, d = .tup ys ∧ ys.length ≤ ts.length ∧ ∀ x ∈ ys, Sc x) → N6 [some (.obj p), some (.lst (plD ts)), some (.lst (ls.map ipD)), some (.str (pageOf ts (nmL ts ls))), some (.int (ts.length : Nat)), some d, none, none, none, none, none, none, none] (S.set p (pan3 a b c)) := by
        intro d a b c A hd
        subst hN6
        and_intros
        have tu : TupU d := fun ys e => by
          rcases hd with h | ⟨zs, rfl, _⟩
          · rw [h] at e
            cases e
          · cases e
            rfl
        generalize hN7 : wSeq (wIfS (wB (wV 6)) _ _) _ _ = N7
        have rest7 : ∀ gd : Bool, (gd = true → ∃ ys, d = .tup ys ∧ ys.length = ts.length ∧ ∀ x ∈ ys, Sc x) → (gd = false → ¬ IsClr ts (nmL ts ls) d) → N7 [some (.obj p), some (.lst (plD ts)), some (.lst (ls.map ipD)), some (.str (pageOf ts (nmL ts ls))), some (.int (ts.length : Nat)), some d, some (.bl gd), none, none, none, none, none, none] (S.set p (pan3 a b c)) := by
          intro gd g1 g0
          subst hN7
          and_intros
          generalize hN8 : wSeq (wIfS (wB (wV 6)) _ _) _ _ = N8
          have rest8 : ∀ gd : Bool, (gd = true → ∃ ns : List Int, d = .tup (ns.map D.int) ∧ ns.length = ts.length ∧ ∀ n ∈ ns, 0 < n) → (gd = false → ¬ IsClr ts (nmL ts ls) d) → N8 [some (.obj p), some (.lst (plD ts)), some (.lst (ls.map ipD)), some (.str (pageOf ts (nmL ts ls))), some (.int (ts.length : Nat)), some d, some (.bl gd), none, none, none, none, none, none] (S.set p (pan3 a b c)) := by
            intro gd g1 g0
            subst hN8
            and_intros
            generalize hN9 : wSeq (wFor _ _ _) _ _ = N9
            have rest9 : ∀ gd : Bool, (gd = true ↔ IsClr ts (nmL ts ls) d) → N9 [some (.obj p), some (.lst (plD ts)), some (.lst (ls.map ipD)), some (.str (pageOf ts (nmL ts ls))), some (.int (ts.length : Nat)), some d, some (.bl gd), none, none, none, none, none, none] (S.set p (pan3 a b c)) := by
              intro gd hgd
              subst hN9
              and_intros
              refine ⟨⟨by decide, by decide, by decide⟩, ?_⟩
              and_intros
              refine forJ [1, ((ts.length : Nat) : Int), ((ts.length : Nat) : Int) - 1, 10 ^ (20 : Int).toNat] D.int (fun x : Option D × Option D => [some (.obj p), some (.lst (plD ts)), some (.lst (ls.map ipD)), some (.str (pageOf ts (nmL ts ls))), some (.int (ts.length : Nat)), some d, some (.bl gd), x.1, x.2, none, none, none, none]) (fun _ => S.set p (pan3 a b c)) (fun _ _ => True) (none, none) trivial ?_ ?_
              · rintro j far ⟨x1, x2⟩ hf -
                and_intros
                refine isCB (fun h => ?_) (fun h => ?_)
                · have hc := hgd.mp h
                  obtain ⟨ns, e, hl, hpn, ha⟩ := id hc
                  have ed := tu _ e
                  subst ed
                  and_intros
                  refine ⟨ns, rfl, fun e0 => (by rw [e0] at hl; simp at hl; omega), fun mx hmx => ?_⟩
                  and_intros
                  refine xFnK ?_
                  and_intros
                  refine ⟨"coloured", ts, nmL ts ls, far, _, 100, rfl, N.web, A, by decide, .inr (.inl ⟨rfl, tu, fun bb hb => ?_⟩)⟩
                  and_intros
                  refine xRB ?_
                  and_intros
                  refine xRB ?_
                  refine neBoolS ?_
                  refine isNB ?_ ?_
                  · have e2 : bb = decide (mx ≤ far) := Bool.eq_iff_iff.mpr (by
                      rw [hb, decide_eq_true_iff]
                      constructor
                      · exact fun z => z.2 ns e mx hmx.1
                      · intro h3
                        refine ⟨hc, fun ns' h' k hk => ?_⟩
                        rw [e] at h'
                        rw [← ints_injk (Option.some.inj h')] at hk
                        have := hmx.2 k hk
                        omega)
                    rw [e2]
                    simp
                  · and_intros
                    exact .of (some (.int far), some (.bl _)) trivial
                · and_intros
                  refine xFnK ?_
                  and_intros
                  refine ⟨"coloured", ts, nmL ts ls, far, _, 100, rfl, N.web, A, by decide, .inr (.inl ⟨rfl, tu, fun bb hb => ?_⟩)⟩
                  and_intros
                  refine xRB ?_
                  and_intros
                  refine xRB ?_
                  refine neBoolS ?_
                  refine isNB ?_ ?_
                  · have e2 : bb = false := by
                      cases bb with
                      | false => rfl
                      | true =>
                        have := hgd.mpr (hb.mp rfl).1
                        rw [h] at this
                        cases this
                    rw [e2]
                    rfl
                  · and_intros
                    exact .of (some (.int far), some (.bl false)) trivial
              · rintro ⟨x1, x2⟩ -
                and_intros
                exact cl (q a b c)
            refine isCB (fun h => ?_) (fun h => ?_)
            · obtain ⟨ns, ed, hl, hpn⟩ := g1 h
              subst ed
              and_intros
              refine lcF ls ipD (fun t => decide (ns.getD t.1 0 = ns.getD t.2 0)) (fun _ => .int 1) ?_ (by omega) (fun t ht S' e => ?_) ?_
              · and_intros
                exact srcT
              · obtain ⟨g1, g2, _⟩ := N.ok t ht
                have k1 : ns[t.1]? = some (ns.getD t.1 0) := by rw [List.getD_eq_getElem?_getD, List.getElem?_eq_getElem (by omega)]; rfl
                have k2 : ns[t.2]? = some (ns.getD t.2 0) := by rw [List.getD_eq_getElem?_getD, List.getElem?_eq_getElem (by omega)]; rfl
                unfold ipD
                (simp only [prD, putNT, wipeD, putAll, List.set_cons_zero, List.set_cons_succ, List.length_cons, List.length_nil, true_and]; and_intros)
                refine ixTup (atM (l := ns) (f := D.int) k1) ?_
                and_intros
                refine ixTup (atM (l := ns) (f := D.int) k2) ?_
                and_intros
                refine lcKI fun h => ?_
                and_intros
                exact ⟨rfl, rfl⟩
              and_intros
              generalize hf : (ls.filter fun t => decide (ns.getD t.1 0 = ns.getD t.2 0)) = fl
              refine neNil (xs := fl.map fun _ => 1) (by
                show some _ = some _
                rw [List.map_map]
                rfl) ?_
              and_intros
              refine rest9 _ ?_
              have key : ∀ t ∈ ls, (apartK (clrK ts ns) (nmT ts t) = true ↔ ns.getD t.1 0 ≠ ns.getD t.2 0) := fun t ht => by
                obtain ⟨g1, g2, _⟩ := N.ok t ht
                have k1 : ns[t.1]? = some (ns.getD t.1 0) := by rw [List.getD_eq_getElem?_getD, List.getElem?_eq_getElem (by omega)]; rfl
                have k2 : ns[t.2]? = some (ns.getD t.2 0) := by rw [List.getD_eq_getElem?_getD, List.getElem?_eq_getElem (by omega)]; rfl
                have d1 := clrK_ix N.nm.2 (getD_get g1) k1
                have d2 := clrK_ix N.nm.2 (getD_get g2) k2
                unfold apartK
                show (match dget (clrK ts ns) (.str (ts.getD t.1 Str.empty)), dget (clrK ts ns) (.str (ts.getD t.2 Str.empty)) with
                  | some (.int i), some (.int j) => decide (i ≠ j)
                  | _, _ => false) = true ↔ _
                rw [d1, d2]
                simp
              rw [List.isEmpty_iff, List.map_eq_nil_iff, ← hf, List.filter_eq_nil_iff]
              constructor
              · intro h3
                refine ⟨ns, rfl, hl, hpn, fun t ht => ?_⟩
                obtain ⟨u, hu, rfl⟩ := List.mem_map.mp ht
                refine (key u hu).mpr ?_
                have := h3 u hu
                simpa using this
              · rintro ⟨ns', e', _, _, ha⟩ u hu hh
                have en := ints_injk (Option.some.inj e')
                subst en
                have := (key u hu).mp (ha _ (List.mem_map.mpr ⟨u, hu, rfl⟩))
                exact this (of_decide_eq_true hh)
            · and_intros
              refine rest9 gd ⟨fun z => (by rw [h] at z; cases z), fun z => absurd z (g0 h)⟩
          refine isCB (fun h => ?_) (fun h => ?_)
          · obtain ⟨ys, ed, hl, hsc⟩ := g1 h
            subst ed
            and_intros
            refine lcF ys (fun d => d) (fun x => !posB x) (fun d => d) ?_ (by omega) (fun x hx S' e => ?_) ?_
            · and_intros
              exact srcX (by simp)
            · (simp only [prD, putNT, wipeD, putAll, List.set_cons_zero, List.set_cons_succ, List.length_cons, List.length_nil, true_and]; and_intros)
              have A' := (hsc x hx).any
              refine isiIntA A' ?_
              cases x with
              | int i =>
                refine isYB rfl ?_
                and_intros
                refine isiBlA A' ?_
                refine isNB rfl ?_
                and_intros
                have e3 : (!posB (.int i)) = decide (i < 1) := by
                  show (!decide (0 < i)) = _
                  by_cases h0 : 0 < i
                  · rw [decide_eq_true h0, decide_eq_false (by omega)]
                    rfl
                  · rw [decide_eq_false h0, decide_eq_true (by omega)]
                    rfl
                rw [e3]
                refine lcKI fun h => ?_
                and_intros
                exact ⟨rfl, rfl⟩
              | bl b =>
                refine isYB rfl ?_
                and_intros
                refine isiBlA A' ?_
                refine isYB rfl ?_
                refine lcKT rfl ?_
                and_intros
                exact ⟨rfl, rfl⟩
              | _ =>
                refine isNB rfl ?_
                refine lcKT rfl ?_
                and_intros
                exact ⟨rfl, rfl⟩
            and_intros
            rw [List.map_id']
            generalize hf : (ys.filter fun x => !posB x) = fl
            refine eqScal (fun x hx => hsc x (by rw [← hf] at hx; exact (List.mem_filter.mp hx).1)) ?_
            and_intros
            have hall : fl.isEmpty = true ↔ ys.all posB = true := by
              rw [List.isEmpty_iff, ← hf, List.filter_eq_nil_iff, List.all_eq_true]
              refine forall_congr' fun x => forall_congr' fun _ => ?_
              simp
            refine rest8 _ (fun h3 => ?_) (fun h3 => ?_)
            · obtain ⟨ns, rfl, hn⟩ := all_pos (hall.mp h3)
              exact ⟨ns, rfl, by rw [List.length_map] at hl; exact hl, hn⟩
            · rintro ⟨ns, e', _, hn, _⟩
              have e5 : ys = ns.map D.int := Option.some.inj e'
              rw [e5] at hall
              rw [hall.mpr (pos_all hn)] at h3
              cases h3
          · and_intros
            exact rest8 gd (fun z => (by rw [h] at z; cases z)) (fun z => g0 z)
        refine isiTupA ?_ A
        rcases hd with e | ⟨ys, ed, hyl, hys⟩
        · rw [e]
          refine isNB rfl ?_
          and_intros
          exact rest7 false (fun z => by cases z) fun _ ⟨ns, h, _⟩ => by rw [e] at h; cases h
        · subst ed
          refine isYB rfl ?_
          and_intros
          refine rest7 _ (fun z => ?_) fun z ⟨ns, h, hl, _⟩ => ?_
          · have := of_decide_eq_true z
            exact ⟨ys, rfl, by omega, hys⟩
          · have e5 : ys = ns.map D.int := Option.some.inj h
            have e6 := of_decide_eq_false z
            rw [e5, List.length_map] at e6
            exact e6 (by omega)
      have forget : ∀ x o, (S.set p (pan3 a b c)) x = some o → ((S.set p (pan3 a b c)).set g (.lst xs)) x = some o := fun x o hx => by
        by_cases e2 : x = g
        · rw [e2, set_ne hpg.symm, hg] at hx
          cases hx
        · rw [set_ne e2]
          exact hx
      have gn : (S.set p (pan3 a b c)) g = none := by rw [set_ne hpg.symm]; exact hg
      have tupA : ∀ ys : List D, ys.length ≤ 40 → (∀ x ∈ ys, Sc x) → Any 100 (.tup ys) := fun ys hl h => .tup _ (by omega) fun x hx => (h x hx).any
      refine ixAnyL (by simpa using hr) fun x hx => ?_
      simp only [List.mem_cons, List.not_mem_nil, or_false] at hx
      rcases hx with rfl | rfl | rfl | rfl | rfl
      · and_intros
        exact ⟨_, _, Wk.to forget, rest6 _ a b c (tupA xs (by omega) hxs) (.inr ⟨xs, rfl, by omega, hxs⟩)⟩
      · and_intros
        exact ⟨_, _, Wk.to forget, rest6 _ a b c (tupA xs (by omega) hxs) (.inr ⟨xs, rfl, by omega, hxs⟩)⟩
      · and_intros
        exact ⟨_, _, Wk.to forget, rest6 _ a b c (tupA xs (by omega) hxs) (.inr ⟨xs, rfl, by omega, hxs⟩)⟩
      · and_intros
        refine ⟨[some (.obj p), some (.lst (plD ts)), some (.lst (ls.map ipD)), some (.str (pageOf ts (nmL ts ls))), some (.int (ts.length : Nat)), some (.lst xs), none, none, none, none, none, none, none], S.set p (pan3 a b c), Wk.lstS (ds := xs) gn ⟨.inl rfl, .inl rfl, .inl rfl, .inl rfl, .inl rfl, .inr (.inr ⟨rfl, rfl⟩), .inl rfl, .inl rfl, .inl rfl, .inl rfl, .inl rfl, .inl rfl, .inl rfl, trivial⟩, rest6 (.lst xs) a b c (.lst _ (by omega) fun x hx => (hxs x hx).any) (.inl rfl)⟩
      · have hdr : ∀ x ∈ xs.drop 1, Sc x := fun x hx => hxs x (List.mem_of_mem_drop hx)
        and_intros
        exact ⟨_, _, Wk.to forget, rest6 _ a b c (tupA _ (by rw [List.length_drop]; omega) hdr) (.inr ⟨xs.drop 1, rfl, by rw [List.length_drop]; omega, hdr⟩)⟩
    refine isD (fun h => ?_) (fun h => ?_)
    · and_intros
      refine ⟨⟨by decide, by decide, by decide⟩, ?_⟩
      and_intros
      refine sipC (m := 6) (so_p hpg) (by decide) (by decide) fun r hr a b c => ?_
      rw [so_pp hpg]
      and_intros
      refine ixAnyL (by simpa using hr) fun v hv => ?_
      have hvs : Sc v := by
        simp only [List.mem_cons, List.not_mem_nil, or_false] at hv
        rcases hv with rfl | rfl | rfl | rfl | rfl | rfl
        · exact .int _
        · exact .int _
        · exact .bl _
        · exact .non
        · exact .str _ ⟨by decide +kernel, by decide +kernel⟩
        · exact .int _
      and_intros
      refine sipC (m := ts.length) (so_p hpg) htp (by omega) fun k hk a b c => ?_
      rw [so_pp hpg]
      refine ⟨g, rfl, .inl ⟨xs, k, k, set_same, rfl, ixN_nat (by omega), ?_⟩⟩
      rw [set_set]
      refine rest5 _ a b c (by rw [List.length_set]; exact hxl) fun x hx => ?_
      rcases List.mem_or_eq_of_mem_set hx with h | rfl
      · exact hxs x h
      · exact hvs
    · and_intros
      exact rest5 xs a b c hxl hxs
  refine sipC (m := 2) (so_p hpg) (by decide) (by decide) fun r _ a b c => ?_
  rw [so_pp hpg]
  and_intros
  refine isD (fun h => ?_) (fun h => ?_)
  · and_intros
    refine xLstR2O ?_
    and_intros
    refine ⟨1, _, rfl, rfl, ⟨by omega, by omega, by omega, by omega, by omega⟩, fun g2 hg2 => ?_⟩
    and_intros
    have n1 : g2 ≠ g := fun e => by rw [e, set_same] at hg2; cases hg2
    rw [set_ne n1] at hg2
    have n2 : g2 ≠ p := fun e => by rw [e, set_same] at hg2; cases hg2
    rw [set_ne n2] at hg2
    refine ⟨_, (S.set p (pan3 a b c)).set g2 (.lst (rgDD 1 ((ts.length : Nat) + 1))), Wk.to fun x o hx => ?_, rest4 g2 _ a b c hg2 n2.symm ?_ fun x hx => ?_⟩
    · by_cases e1 : x = g2
      · rw [e1, set_same] at hx ⊢
        exact hx
      · rw [set_ne e1] at hx ⊢
        by_cases e2 : x = g
        · rw [e2, set_ne hpg.symm, hg] at hx
          cases hx
        · rw [set_ne e2]
          exact hx
    · unfold rgDD
      rw [List.length_map, List.length_range]
      omega
    · unfold rgDD at hx
      obtain ⟨i, _, rfl⟩ := List.mem_map.mp hx
      exact .int _
  · and_intros
    exact ⟨_, _, Wk.refl _ _, rest4 g xs a b c hg hpg hxl hxs⟩
end
section
open PySem PySem.Spec PyProof.Rows
theorem inNm {S : SO} {Q : KD} {v : Nat} {l : List Nat} (h : Q (.bl (decide (v ∈ l))) S) : oIn (.int (v : Nat)) (.lst (nsD l)) S Q := .inl ⟨_, rfl, memN (x := v) h⟩
theorem natsJ : ∀ {l : List Int}, (∀ k ∈ l, 0 ≤ k) → ∃ r : List Nat, l = r.map fun i : Nat => (i : Int)
  | [], _ => ⟨[], rfl⟩
  | k :: l, h => by
    obtain ⟨r, hr⟩ := natsJ (l := l) fun x hx => h x (List.mem_cons_of_mem _ hx)
    obtain ⟨n, hn⟩ := Int.eq_ofNat_of_zero_le (h k (List.mem_cons_self ..))
    exact ⟨n :: r, by rw [hr, hn]; rfl⟩
def sp_cel_shut (W : Addr) : DSp := fun ds S Q E => ∃ (n k : Nat) (ls : List (Nat × Nat)), ds = [.int (n : Nat), .lst (ls.map ipD), .int (k : Nat)] ∧ n ≤ 8 ∧ k < n ∧ (∀ t ∈ ls, t.2 < n) ∧ ls.length ≤ 200 ∧ ∀ own : List Nat, own.length ≤ 80 → (∀ x ∈ own, x < n) → Q (.lst (nsD own)) S
def w_cel_shut (W : Addr) : WS := (wSeq (wAsg (wLst (wCons (wV 2) wNil)) (gV 3))
    (wSeq (wFor (wRng1 (wCons (wV 0) wNil)) (gV 4) (wAsg (wO oAdd (wV 3) (wSortSetI (wLcP (wSeqI (wV 1)) (.t [5, 6]) (wAnd (wB (wO oIn (wV 5) (wV 3))) (wB (wO oNotIn (wV 6) (wV 3)))) (wV 6) [5, 6]))) (gV 3)))
    (wRet (wV 3))))
theorem pure_cel_shut (W : Addr) : ∀ ds S Q E, sp_cel_shut W ds S Q E → w_cel_shut W (endsOf Q) (startD ["_law_many", "_law_links_here", "_law_k", "_law_found", "_law_turn", "_law_a", "_law_b"] ds) S := by
  rintro ds S Q E ⟨n, k, ls, rfl, hn, hk, hls, hll, q⟩
  refine xFn ?_
  show w_cel_shut W _ [some _, some _, some _, none, none, none, none] S
  unfold w_cel_shut
  and_intros
  refine rng1N (by omega) ?_
  refine forR (fun x : List Nat × Option D => [some (.int (n : Nat)), some (.lst (ls.map ipD)), some (.int (k : Nat)), some (.lst (nsD x.1)), x.2, none, none]) (fun _ => S) (fun i x => x.1.length ≤ 1 + 8 * i ∧ ∀ y ∈ x.1, y < n) ([k], none) ⟨by simp, fun y hy => by rw [List.mem_singleton.mp hy]; exact hk⟩ ?_ ?_
  · rintro i ⟨own, x4⟩ hi ⟨h1, h2⟩
    have h1 : own.length ≤ 1 + 8 * i := h1
    have h2 : ∀ y ∈ own, y < n := h2
    and_intros
    refine xSortSetI ?_
    and_intros
    refine lcF ls ipD (fun t => decide (t.1 ∈ own) && !decide (t.2 ∈ own)) (fun t => .int (t.2 : Nat)) ?_ (by omega) (fun t ht S' e => ?_) ?_
    · and_intros
      exact srcT
    · unfold ipD
      (simp only [prD, putNT, wipeD, putAll, List.set_cons_zero, List.set_cons_succ, List.length_cons, List.length_nil, true_and]; and_intros)
      refine inNm ?_
      refine isCB (fun h => ?_) (fun h => ?_)
      · and_intros
        refine ninN ?_
        refine isCB (fun h' => ?_) (fun h' => ?_)
        · refine lcKT (by rw [h, h']; rfl) ?_
          and_intros
          exact ⟨rfl, rfl⟩
        · exact lcKF (by rw [h, h']; rfl)
      · exact lcKF (by rw [h]; rfl)
    generalize hf : (ls.filter fun t => decide (t.1 ∈ own) && !decide (t.2 ∈ own)) = fl
    have hfl : ∀ t ∈ fl, t.2 < n := fun t ht => by
      rw [← hf] at ht
      exact hls t (List.mem_filter.mp ht).1
    have hfll : fl.length ≤ 200 := by
      rw [← hf]
      exact Nat.le_trans (List.length_filter_le ..) hll
    refine ⟨fl.map fun t => ((t.2 : Nat) : Int), ?_, by rw [List.length_map]; omega, fun ss nd _ hm => ?_⟩
    · show some _ = some _
      rw [List.map_map]
      rfl
    have hss : ∀ x ∈ ss, 0 ≤ x ∧ x < (n : Int) := fun x hx => by
      obtain ⟨t, ht, rfl⟩ := List.mem_map.mp ((hm x).mp hx)
      have := hfl t ht
      omega
    obtain ⟨r, er⟩ := natsJ fun x hx => (hss x hx).1
    subst er
    have hr : ∀ x ∈ r, x < n := fun x hx => by
      have := (hss _ (List.mem_map.mpr ⟨x, hx, rfl⟩)).2
      omega
    have hrn : r.Nodup := (List.pairwise_map.mp nd).imp fun h e => h (by rw [e])
    have hrl : r.length ≤ n := nodup_lt hrn hr
    rw [show (r.map fun i : Nat => (i : Int)).map D.int = nsD r by unfold nsD; rw [List.map_map]; rfl]
    and_intros
    refine lAdd ?_ (by rw [List.length_map, List.length_map]; omega)
    and_intros
    refine .of (own ++ r, _) ⟨?_, ?_⟩ (by rw [show nsD own ++ nsD r = nsD (own ++ r) from (List.map_append ..).symm])
    · show (own ++ r).length ≤ _
      rw [List.length_append]
      omega
    · intro y hy
      rcases List.mem_append.mp hy with hy | hy
      · exact h2 y hy
      · exact hr y hy
  · rintro ⟨own, x4⟩ ⟨h1, h2⟩
    have h1 : own.length ≤ 1 + 8 * n := h1
    and_intros
    exact cl (q own (by omega) h2)
def sp_cel_apR (W : Addr) : DSp := fun ds S Q E => ∃ (p : Addr) (a b c : Int) (ts : List Str) (ls : List (Nat × Nat)), ds = [.obj p, .lst (plD ts), .lst (ls.map ipD), .str (pageOf ts (nmL ts ls))] ∧ S p = some (pan3 a b c) ∧ NetI ts ls ∧ ts.length ≤ 8 ∧ ∀ a b c : Int, Q (.bl true) (S.set p (pan3 a b c))
def w_cel_apR (W : Addr) : WS := (wSeq (wPar 4 5 (wCons (wCall cLen (wCons (wV 1) wNil)) (wCons (wNew wNil) wNil)))
    (wSeq (wFor (wSeqI (wSl (wFn (sp_cel_order W) [] (wCons (wV 0) (wCons (wV 4) wNil))) pNone (pSome (wO oAdd (wC (.int 1)) (wFn (sp_cel_sip W) [] (wCons (wV 0) (wCons (wC (.int 3)) wNil))))))) (gV 6) (wSeq (wAsg (wFn (sp_cel_shut W) [] (wCons (wV 4) (wCons (wV 2) (wCons (wV 6) wNil)))) (gV 7))
    (wSeq (wIfS (wB (wO oEq (wFn (sp_cel_sip W) [] (wCons (wV 0) (wCons (wC (.int 4)) wNil))) (wC (.int 0)))) (wAsg (wIf (wB (wO oEq (wFn (sp_cel_sip W) [] (wCons (wV 0) (wCons (wC (.int 2)) wNil))) (wC (.int 0)))) (wSl (wV 7) pNone (pSome (wU oNeg (wC (.int 1))))) (wO oAdd (wV 7) (wLst (wCons (wFn (sp_cel_sip W) [] (wCons (wV 0) (wCons (wV 4) wNil))) wNil)))) (gV 7)) wNext)
    (wDrop (wBM "list" mAppend (wV 5) (wCons (wTup (wCons (wO oIx (wV 1) (wV 6)) (wCons (wCall cTupleF (wCons (wLcP (wSeqI (wV 7)) (.n 15) wYes (wO oIx (wV 1) (wV 15)) [15]) wNil)) wNil))) wNil))))))
    (wSeq (wCl (wAsg (wCall cTuple (wCons (wV 5) wNil)) (gV 8)))
    (wSeq (wPar 9 10 (wCons (wLcP (wSeqI (wV 5)) (.n 16) wYes (wO oIx (wV 16) (wC (.int 0))) [16]) (wCons (wC (.bl true)) wNil)))
    (wSeq (wFor (wSeqI (wV 5)) (gT 2 (gC (gV 11) (gC (gV 7) gN))) (wSeq (wAsg (wO oEq (wLcP (wSeqI (wV 2)) (.t [17, 18]) (wAnd (wB (wO oIn (wO oIx (wV 1) (wV 17)) (wV 7))) (wB (wO oNotIn (wO oIx (wV 1) (wV 18)) (wV 7)))) (wC (.int 1)) [17, 18]) (wLst wNil)) (gV 12))
    (wSeq (wAsg (wLcP (wSeqI (wV 9)) (.n 19) (wAnd (wB (wO oNe (wV 19) (wV 11))) (wB (wO oIn (wV 19) (wV 7)))) (wV 19) [19]) (gV 13))
    (wIfS (wOr (wNot (wB (wFn (sp_cel_are_pl W) [] (wCons (wV 1) (wCons (wV 7) wNil))))) (wOr (wB (wO oNotIn (wV 11) (wV 7))) (wOr (wNot (wB (wV 12))) (wB (wO oNe (wV 13) (wLst wNil)))))) (wAsg (wC (.bl false)) (gV 10)) wNext))))
    (wSeq (wFor (wSeqI (wLst (wCons (wCall cLen (wCons (wV 5) wNil)) (wCons (wO oAdd (wCall cLen (wCons (wV 5) wNil)) (wC (.int 1))) (wCons (wO oSub (wCall cLen (wCons (wV 5) wNil)) (wC (.int 1))) wNil))))) (gV 14) (wIfS (wB (wO oNe (wCall cReprB (wCons (wFn (sp_acceptsG W) [] (wCons (wTup (wCons (wC (.str "apart")) (wCons (wV 3) (wCons (wV 14) wNil)))) (wCons (wV 8) wNil))) wNil)) (wCall cReprB (wCons (wAndV (wV 10) (wO oEq (wV 14) (wCall cLen (wCons (wV 5) wNil)))) wNil)))) (wRet (wC (.bl false))) wNext))
    (wRet (wAndV (wNotV (wFn (sp_acceptsG W) [] (wCons (wTup (wCons (wC (.str "apart")) (wCons (wV 3) (wCons (wCall cLen (wCons (wV 5) wNil)) wNil)))) (wCons (wV 5) wNil)))) (wNotV (wFn (sp_acceptsG W) [] (wCons (wTup (wCons (wC (.str "apart")) (wCons (wV 3) (wCons (wC (.int 2)) wNil)))) (wCons (wO oMulT (wSl (wV 8) pNone (pSome (wC (.int 1)))) (wC (.int 2))) wNil))))))))))))
theorem pure_cel_apR (W : Addr) : ∀ ds S Q E, sp_cel_apR W ds S Q E → w_cel_apR W (endsOf Q) (startD ["_law_cup_here", "_law_labels_here", "_law_links_here", "_law_page", "_law_many", "_law_pairs", "_law_k", "_law_own", "_law_thing", "_law_heads", "_law_is_good", "_law_head", "_law_shut_here", "_law_others", "_law_far", "_law_j", "_law_pair", "_law_a", "_law_b", "_law_each"] ds) S := by
  rintro ds S Q E ⟨p, a, b, c, ts, ls, rfl, hp, N, ht8, q⟩
  have htl := N.few
  have hll := N.lfew
  have htp := N.pos
  refine xFn ?_
  show w_cel_apR W _ [some _, some _, some _, some _, none, none, none, none, none, none, none, none, none, none, none, none, none, none, none, none] S
  unfold w_cel_apR
  and_intros
  intro g hg
  have hpg : p ≠ g := so_ne hp hg
  have hs : ∀ x ∈ ts, sOk x := fun x hx => name_sOk (N.nm.1 x hx)
  have hs2 : ∀ x ∈ ts, sOk x ∧ x.length ≤ 100 := fun x hx => ⟨hs x hx, by have := (name_chars (N.nm.1 x hx)).2.1; omega⟩
  have gt : ∀ i, i < ts.length → ts.getD i Str.empty ∈ ts := fun i hi => List.mem_of_getElem? (getD_get hi)
  rw [show S.set g (.lst []) = (S.set p (pan3 a b c)).set g (.lst []) by rw [set_self hp]]
  and_intros
  refine ⟨p, a, b, c, ts.length, rfl, so_p hpg, by omega, fun os a b c hos => ?_⟩
  rw [so_pp hpg]
  and_intros
  refine sipC (m := 3) (so_p hpg) (by decide) (by decide) fun r hr a b c => ?_
  rw [so_pp hpg]
  and_intros
  rw [show ((1 : Int) + ((r : Nat) : Int)) = ((1 + r : Nat) : Int) by omega, cutHi (k := 1 + r)]
  obtain ⟨os', hos'⟩ : ∃ os', os' = os.take (1 + r) := ⟨_, rfl⟩
  have e0 : (nsD os).take (1 + r) = nsD os' := by rw [hos']; unfold nsD; rw [List.map_take]
  rw [e0]
  have hosn : os.Nodup := hos.nodup_iff.mpr List.nodup_range
  have hosl : os.length = ts.length := by rw [hos.length_eq, List.length_range]
  have hoslt : ∀ k ∈ os', k < ts.length := fun k hk => by
    rw [hos'] at hk
    exact List.mem_range.mp (hos.mem_iff.mp (List.mem_of_mem_take hk))
  have hos'n : os'.Nodup := by
    rw [hos']
    exact hosn.sublist (List.take_sublist _ _)
  have hos'l : os'.length ≤ 40 ∧ 0 < os'.length := by
    rw [hos', List.length_take, hosl]
    omega
  have nmA : ∀ {z : Str × List Str}, z.1 ∈ ts → (∀ x ∈ z.2, x ∈ ts) → z.2.length ≤ 90 → Any 100 (apD z) := fun {z} h1 h2 h3 => .tup _ (by simp) fun d hd => by
    simp only [List.mem_cons, List.not_mem_nil, or_false] at hd
    rcases hd with rfl | rfl
    · exact .str _ (hs2 _ h1)
    · exact (anyF_row (fun x hx => hs2 x (h2 x hx)) (by omega)).any
  refine forJ os' (fun i : Nat => D.int (i : Nat)) (fun x : (List (Str × List Str) × Int × Int × Int) × Option D × Option D => [some (.obj p), some (.lst (plD ts)), some (.lst (ls.map ipD)), some (.str (pageOf ts (nmL ts ls))), some (.int (ts.length : Nat)), some (.obj g), x.2.1, x.2.2, none, none, none, none, none, none, none, none, none, none, none, none]) (fun x => (S.set p (pan3 x.1.2.1 x.1.2.2.1 x.1.2.2.2)).set g (.lst (x.1.1.map apD))) (fun i x => x.1.1.map (·.1) = (os'.take i).map (fun k => ts.getD k Str.empty) ∧ ∀ z ∈ x.1.1, (∀ y ∈ z.2, y ∈ ts) ∧ z.2.length ≤ 90) (([], a, b, c), none, none) ⟨rfl, by simp⟩ ?_ ?_
  · rintro i k ⟨⟨prs, a, b, c⟩, x6, x7⟩ hk ⟨h1, h2⟩
    have h1 : prs.map (·.1) = (os'.take i).map (fun k => ts.getD k Str.empty) := h1
    have h2 : ∀ z ∈ prs, (∀ y ∈ z.2, y ∈ ts) ∧ z.2.length ≤ 90 := h2
    have hkl := hoslt k (List.mem_of_getElem? hk)
    have hil := (List.getElem?_eq_some_iff.mp hk).1
    have hprl : prs.length ≤ 40 := by
      have := congrArg List.length h1
      rw [List.length_map, List.length_map, List.length_take] at this
      omega
    and_intros
    refine ⟨ts.length, k, ls, rfl, ht8, hkl, fun t ht => (N.ok t ht).2.1, hll, fun own hol how => ?_⟩
    and_intros
    refine sipC (m := 4) (so_p hpg) (by decide) (by decide) fun r hr a b c => ?_
    rw [so_pp hpg]
    and_intros
    generalize hNd : wDrop (wBM "list" mAppend _ _) _ = Nd
    have rest : ∀ (own : List Nat) (a b c : Int), own.length ≤ 81 → (∀ x ∈ own, x < ts.length) → Nd [some (.obj p), some (.lst (plD ts)), some (.lst (ls.map ipD)), some (.str (pageOf ts (nmL ts ls))), some (.int (ts.length : Nat)), some (.obj g), some (.int (k : Nat)), some (.lst (nsD own)), none, none, none, none, none, none, none, none, none, none, none, none] ((S.set p (pan3 a b c)).set g (.lst (prs.map apD))) := by
      intro own a b c hol how
      subst hNd
      and_intros
      refine bmObj set_same ?_
      and_intros
      refine ixLst (atM (l := ts) (f := D.str) (getD_get hkl)) ?_
      and_intros
      refine lcM own (fun i : Nat => D.int (i : Nat)) (fun j => .str (ts.getD j Str.empty)) ?_ (by omega) (fun j hj S' e => ?_) ?_
      · and_intros
        exact srcT
      · (simp only [prD, putNT, wipeD, putAll, List.set_cons_zero, List.set_cons_succ, List.length_cons, List.length_nil, true_and]; and_intros)
        refine ixLst (atM (l := ts) (f := D.str) (getD_get (how j hj))) ?_
        exact ⟨rfl, rfl⟩
      rw [show own.map (fun j => D.str (ts.getD j Str.empty)) = plD (own.map fun j => ts.getD j Str.empty) by unfold plD; rw [List.map_map]; rfl]
      and_intros
      refine apM (f := apD) (l := prs) (z := (ts.getD k Str.empty, own.map fun j => ts.getD j Str.empty)) set_same (by omega) ?_
      and_intros
      rw [set_set]
      refine .of ((prs ++ [(ts.getD k Str.empty, own.map fun j => ts.getD j Str.empty)], a, b, c), _, _) ⟨?_, fun z hz => ?_⟩
      · show (prs ++ _).map (·.1) = _
        rw [List.map_append, h1, List.take_succ, hk, List.map_append]
        rfl
      · rcases List.mem_append.mp hz with hz | hz
        · exact h2 z hz
        · rw [List.mem_singleton.mp hz]
          refine ⟨fun y hy => ?_, by show (own.map _).length ≤ 90; rw [List.length_map]; omega⟩
          obtain ⟨j, hj, rfl⟩ := List.mem_map.mp hy
          exact gt j (how j hj)
    refine isD (fun h => ?_) (fun h => ?_)
    · and_intros
      refine sipC (m := 2) (so_p hpg) (by decide) (by decide) fun r hr a b c => ?_
      rw [so_pp hpg]
      and_intros
      refine isD (fun h => ?_) (fun h => ?_)
      · and_intros
        have hc : cutD (nsD own) none (some (-1)) = nsD (own.take (HT.sIx own.length own.length (some (-1)))) := by
          unfold cutD nsD
          rw [List.length_map, List.map_take]
          rfl
        rw [hc]
        exact rest _ a b c (by rw [List.length_take]; omega) fun x hx => how x (List.mem_of_mem_take hx)
      · and_intros
        refine sipC (m := ts.length) (so_p hpg) htp (by omega) fun r hr a b c => ?_
        rw [so_pp hpg]
        and_intros
        refine lAdd ?_ (by rw [List.length_map]; simp; omega)
        and_intros
        rw [show nsD own ++ [D.int (r : Nat)] = nsD (own ++ [r]) by unfold nsD; rw [List.map_append]; rfl]
        exact rest _ a b c (by rw [List.length_append]; simp; omega) fun x hx => by
          rcases List.mem_append.mp hx with hx | hx
          · exact how x hx
          · rw [List.mem_singleton.mp hx]
            exact hr
    · and_intros
      exact rest own a b c (by omega) how
  · rintro ⟨⟨prs, a, b, c⟩, x6, x7⟩ ⟨h1, h2⟩
    have h1 : prs.map (·.1) = (os'.take os'.length).map (fun k => ts.getD k Str.empty) := h1
    have h2 : ∀ z ∈ prs, (∀ y ∈ z.2, y ∈ ts) ∧ z.2.length ≤ 90 := h2
    rw [List.take_length] at h1
    have hprl : prs.length ≤ 40 ∧ 0 < prs.length := by
      have := congrArg List.length h1
      rw [List.length_map, List.length_map] at this
      omega
    have hhd : ∀ z ∈ prs, z.1 ∈ ts := fun z hz => by
      have : z.1 ∈ prs.map (·.1) := List.mem_map.mpr ⟨z, hz, rfl⟩
      rw [h1] at this
      obtain ⟨k, hk, e⟩ := List.mem_map.mp this
      rw [← e]
      exact gt k (hoslt k hk)
    have hnd : (prs.map (·.1)).Nodup := by
      rw [h1]
      exact nodup_map_on (fun x hx y hy e => getD_inj N.nm.2 (hoslt x hx) (hoslt y hy) e) hos'n
    have prA : Any 100 (.tup (prs.map apD)) := .tup _ (by rw [List.length_map]; omega) fun d hd => by
      obtain ⟨z, hz, rfl⟩ := List.mem_map.mp hd
      exact nmA (hhd z hz) (h2 z hz).1 (h2 z hz).2
    have gn : (S.set p (pan3 a b c)) g = none := by rw [set_ne hpg.symm]; exact hg
    and_intros
    refine ⟨prs.map apD, show objL _ = _ by rw [set_same]; rfl, ?_⟩
    and_intros
    refine ⟨[some (.obj p), some (.lst (plD ts)), some (.lst (ls.map ipD)), some (.str (pageOf ts (nmL ts ls))), some (.int (ts.length : Nat)), some (.lst (prs.map apD)), x6, x7, some (.tup (prs.map apD)), none, none, none, none, none, none, none, none, none, none, none], S.set p (pan3 a b c), Wk.lstS (ds := prs.map apD) gn ⟨.inl rfl, .inl rfl, .inl rfl, .inl rfl, .inl rfl, .inr (.inr ⟨rfl, rfl⟩), .inl rfl, .inl rfl, .inl rfl, .inl rfl, .inl rfl, .inl rfl, .inl rfl, .inl rfl, .inl rfl, .inl rfl, .inl rfl, .inl rfl, .inl rfl, .inl rfl, trivial⟩, ?_⟩
    and_intros
    refine lcM prs apD (fun z => .str z.1) ?_ (by omega) (fun z hz S' e => ?_) ?_
    · and_intros
      exact srcT
    · unfold apD
      (simp only [prD, putNT, wipeD, putAll, List.set_cons_zero, List.set_cons_succ, List.length_cons, List.length_nil, true_and]; and_intros)
      refine ixTup at0 ?_
      exact ⟨rfl, rfl⟩
    generalize hH : prs.map (·.1) = heads at h1 hnd
    have hHs : ∀ x ∈ heads, x ∈ ts := fun x hx => by
      rw [← hH] at hx
      obtain ⟨z, hz, rfl⟩ := List.mem_map.mp hx
      exact hhd z hz
    have hHl : heads.length ≤ 40 := by
      rw [← hH, List.length_map]
      omega
    rw [show (prs.map fun z => D.str z.1) = plD heads by rw [← hH]; unfold plD; rw [List.map_map]; rfl]
    and_intros
    let OkZ : Str × List Str → Prop := fun z => ShutB (nmL ts ls) z ∧ ∀ h ∈ heads, h = z.1 ∨ h ∉ z.2
    have hap : (∀ z ∈ prs, OkZ z) ↔ ApB (nmL ts ls) prs := by
      constructor
      · intro h
        refine ⟨fun z hz => (h z hz).1, by rw [hH]; exact hnd, fun z hz y hy => (h z hz).2 y.1 ?_⟩
        rw [← hH]
        exact List.mem_map.mpr ⟨y, hy, rfl⟩
      · intro B z hz
        refine ⟨B.sh z hz, fun h hh => ?_⟩
        rw [← hH] at hh
        obtain ⟨y, hy, rfl⟩ := List.mem_map.mp hh
        exact B.ap z hz y hy
    generalize hNl : wSeq (wFor (wSeqI (wLst _)) _ _) _ _ = Nl
    refine forJ prs apD (fun x : Bool × List (Option D) => [some (.obj p), some (.lst (plD ts)), some (.lst (ls.map ipD)), some (.str (pageOf ts (nmL ts ls))), some (.int (ts.length : Nat)), some (.lst (prs.map apD)), x6, x.2.getD 0 none, some (.tup (prs.map apD)), some (.lst (plD heads)), some (.bl x.1), x.2.getD 1 none, x.2.getD 2 none, x.2.getD 3 none, none, none, none, none, none, none]) (fun _ => S.set p (pan3 a b c)) (fun i x => x.1 = true ↔ ∀ z ∈ prs.take i, OkZ z) (true, [x7]) ⟨fun _ => by simp, fun _ => rfl⟩ ?_ ?_
    · rintro i ⟨hd, own⟩ ⟨good, cs⟩ hz hg
      have hg : good = true ↔ ∀ z ∈ prs.take i, OkZ z := hg
      have hzm := List.mem_of_getElem? hz
      have hhd1 : hd ∈ ts := hhd _ hzm
      have how : ∀ y ∈ own, y ∈ ts := (h2 _ hzm).1
      have hol : own.length ≤ 90 := (h2 _ hzm).2
      have hos : ∀ y ∈ own, sOk y := fun y hy => hs y (how y hy)
      have htk : (∀ z ∈ prs.take (i + 1), OkZ z) ↔ (∀ z ∈ prs.take i, OkZ z) ∧ OkZ (hd, own) := by
        rw [List.take_succ, hz]
        constructor
        · exact fun h => ⟨fun z hz => h z (List.mem_append_left _ hz), h _ (List.mem_append_right _ (by simp))⟩
        · rintro ⟨h, h'⟩ z hz
          rcases List.mem_append.mp hz with hz | hz
          · exact h z hz
          · have : z = (hd, own) := by simpa using hz
            rw [this]
            exact h'
      unfold apD
      and_intros
      refine lcF ls ipD (fun t => decide (ts.getD t.1 Str.empty ∈ own) && !decide (ts.getD t.2 Str.empty ∈ own)) (fun _ => .int 1) ?_ (by omega) (fun t ht S' e => ?_) ?_
      · and_intros
        exact srcT
      · obtain ⟨g1, g2, _⟩ := N.ok t ht
        unfold ipD
        (simp only [prD, putNT, wipeD, putAll, List.set_cons_zero, List.set_cons_succ, List.length_cons, List.length_nil, true_and]; and_intros)
        refine ixLst (atM (l := ts) (f := D.str) (getD_get g1)) ?_
        and_intros
        refine inTf ?_ (hs _ (gt _ g1)) hos
        refine isCB (fun h => ?_) fun h => ?_
        · and_intros
          refine ixLst (atM (l := ts) (f := D.str) (getD_get g2)) ?_
          and_intros
          refine ninTf ?_ (hs _ (gt _ g2)) hos
          refine isCB (fun h' => ?_) fun h' => ?_
          · refine lcKT (by rw [h, h']; rfl) ?_
            and_intros
            exact ⟨rfl, rfl⟩
          · exact lcKF (by rw [h, h']; rfl)
        · exact lcKF (by rw [h]; rfl)
      generalize hf : (ls.filter fun t => decide (ts.getD t.1 Str.empty ∈ own) && !decide (ts.getD t.2 Str.empty ∈ own)) = fl
      have hsh : fl.isEmpty = true ↔ ∀ t ∈ nmL ts ls, t.1 ∈ own → t.2 ∈ own := by
        rw [List.isEmpty_iff, ← hf, List.filter_eq_nil_iff]
        constructor
        · intro h t ht h3
          obtain ⟨u, hu, rfl⟩ := List.mem_map.mp ht
          have := h u hu
          simp only [Bool.and_eq_true, decide_eq_true_eq, Bool.not_eq_true', decide_eq_false_iff_not, not_and, Decidable.not_not] at this
          exact this h3
        · intro h u hu hh
          simp only [Bool.and_eq_true, decide_eq_true_eq, Bool.not_eq_true', decide_eq_false_iff_not] at hh
          exact hh.2 (h (nmT ts u) (List.mem_map.mpr ⟨u, hu, rfl⟩) hh.1)
      and_intros
      refine neNil (xs := fl.map fun _ => 1) (by
        show some _ = some _
        rw [List.map_map]
        rfl) ?_
      rw [show (fl.map fun _ => (1 : Nat)).isEmpty = fl.isEmpty by cases fl <;> rfl]
      and_intros
      refine lcF heads D.str (fun h => !decide (h = hd) && decide (h ∈ own)) D.str ?_ (by omega) (fun x hx S' e => ?_) ?_
      · and_intros
        exact srcT
      · (simp only [prD, putNT, wipeD, putAll, List.set_cons_zero, List.set_cons_succ, List.length_cons, List.length_nil, true_and]; and_intros)
        refine isCB (fun h => ?_) fun h => ?_
        · and_intros
          refine inTf ?_ (hs _ (hHs x hx)) hos
          refine isCB (fun h' => ?_) fun h' => ?_
          · refine lcKT (by rw [h, h']; rfl) ?_
            and_intros
            exact ⟨rfl, rfl⟩
          · exact lcKF (by rw [h, h']; rfl)
        · exact lcKF (by rw [h]; rfl)
      generalize hf2 : (heads.filter fun h => !decide (h = hd) && decide (h ∈ own)) = fl2
      have hfl2 : ∀ x ∈ fl2, x ∈ ts := fun x hx => by
        rw [← hf2] at hx
        exact hHs x (List.mem_filter.mp hx).1
      have hot : fl2.isEmpty = true ↔ ∀ h ∈ heads, h = hd ∨ h ∉ own := by
        rw [List.isEmpty_iff, ← hf2, List.filter_eq_nil_iff]
        refine forall_congr' fun x => forall_congr' fun _ => ?_
        by_cases h3 : x = hd <;> simp [h3]
      and_intros
      refine ⟨ts, .tf (plD own), 100, rfl, hs, anyF_row (fun x hx => hs2 x (how x hx)) (by omega), by decide, fun pl hpl => ?_⟩
      have bad : ∀ (sd : SD), sd = [some (.obj p), some (.lst (plD ts)), some (.lst (ls.map ipD)), some (.str (pageOf ts (nmL ts ls))), some (.int (ts.length : Nat)), some (.lst (prs.map apD)), x6, some (.tf (plD own)), some (.tup (prs.map apD)), some (.lst (plD heads)), some (.bl false), some (.str hd), some (.bl fl.isEmpty), some (.lst (plD fl2)), none, none, none, none, none, none] → ¬ OkZ (hd, own) → Turn (fun x : Bool × List (Option D) => [some (.obj p), some (.lst (plD ts)), some (.lst (ls.map ipD)), some (.str (pageOf ts (nmL ts ls))), some (.int (ts.length : Nat)), some (.lst (prs.map apD)), x6, x.2.getD 0 none, some (.tup (prs.map apD)), some (.lst (plD heads)), some (.bl x.1), x.2.getD 1 none, x.2.getD 2 none, x.2.getD 3 none, none, none, none, none, none, none]) (fun _ => S.set p (pan3 a b c)) (fun i x => x.1 = true ↔ ∀ z ∈ prs.take i, OkZ z) (i + 1) sd (S.set p (pan3 a b c)) := by
        rintro sd rfl hno
        refine .of (false, [_, _, _, _]) ⟨fun h => (by cases h), fun h => absurd (htk.mp h).2 hno⟩
      refine isCB (fun h3 => ?_) (fun h3 => ?_)
      · obtain ⟨r0, er0, nd0, _⟩ := hpl.mp h3
        have er0 := plD_inj (Option.some.inj er0)
        subst er0
        and_intros
        refine ninTf ?_ (hs _ hhd1) hos
        refine isND (fun h4 => ?_) (fun h4 => ?_)
        · and_intros
          refine isCB (fun h5 => ?_) (fun h5 => ?_)
          · and_intros
            refine neL0 (f := D.str) (g := PyData.str) (l := fl2) rfl (fun _ _ => rfl) (shaped_strs (fun x => x) fun z hz => hs z (hfl2 z hz)) ?_
            refine isCB (fun h6 => ?_) (fun h6 => ?_)
            · and_intros
              refine bad _ rfl fun o => ?_
              rw [hot.mpr o.2] at h6
              cases h6
            · and_intros
              have okz : OkZ (hd, own) := ⟨⟨nd0, h4, hsh.mp h5⟩, hot.mp (by simpa using h6)⟩
              refine .of (good, [_, _, _, _]) ?_
              exact hg.trans ⟨fun h => htk.mpr ⟨h, okz⟩, fun h => (htk.mp h).1⟩
          · and_intros
            refine bad _ rfl fun o => ?_
            rw [hsh.mpr o.1.shut] at h5
            cases h5
        · and_intros
          exact bad _ rfl fun o => h4 o.1.hd
      · and_intros
        refine bad _ rfl fun o => ?_
        have := hpl.mpr ⟨own, rfl, o.1.nd, how⟩
        rw [h3] at this
        cases this
    · rintro ⟨good, cs⟩ hg
      have hg : good = true ↔ ∀ z ∈ prs.take prs.length, OkZ z := hg
      rw [List.take_length, hap] at hg
      subst hNl
      and_intros
      refine forJ [((prs.length : Nat) : Int), ((prs.length : Nat) : Int) + 1, ((prs.length : Nat) : Int) - 1] D.int (fun x : Option D => [some (.obj p), some (.lst (plD ts)), some (.lst (ls.map ipD)), some (.str (pageOf ts (nmL ts ls))), some (.int (ts.length : Nat)), some (.lst (prs.map apD)), x6, cs.getD 0 none, some (.tup (prs.map apD)), some (.lst (plD heads)), some (.bl good), cs.getD 1 none, cs.getD 2 none, cs.getD 3 none, x, none, none, none, none, none]) (fun _ => S.set p (pan3 a b c)) (fun _ _ => True) none trivial ?_ ?_
      · rintro j far x hf -
        and_intros
        refine ⟨"apart", ts, nmL ts ls, far, .tup (prs.map apD), 100, rfl, N.web, prA, by decide, .inr (.inr ⟨rfl, .inr ⟨prs, rfl, by omega, fun z hz => ⟨hhd z hz, (h2 z hz).1, by have := (h2 z hz).2; omega⟩, fun bb hb => ?_⟩⟩)⟩
        and_intros
        refine xRB ?_
        and_intros
        refine isCB (fun h => ?_) (fun h => ?_)
        · and_intros
          refine xRB ?_
          refine neBoolS ?_
          have e2 : bb = decide (far = ((prs.length : Nat) : Int)) := Bool.eq_iff_iff.mpr (by
            rw [hb, decide_eq_true_iff]
            exact ⟨fun z => z.2.symm, fun z => ⟨hg.mp h, z.symm⟩⟩)
          rw [e2]
          refine isNB (by simp) ?_
          and_intros
          exact .of (some (.int far)) trivial
        · and_intros
          refine xRB ?_
          refine neBoolS ?_
          have e2 : bb = false := by
            cases bb with
            | false => rfl
            | true =>
              have := hg.mpr (hb.mp rfl).1
              rw [h] at this
              cases this
          rw [e2]
          refine isNB rfl ?_
          and_intros
          exact .of (some (.int far)) trivial
      · rintro x -
        and_intros
        refine ⟨"apart", ts, nmL ts ls, _, .lst (prs.map apD), 100, rfl, N.web, .lst _ (by rw [List.length_map]; omega) fun d hd => ?_, by decide, .inr (.inr ⟨rfl, .inl ⟨rfl, ?_⟩⟩)⟩
        · obtain ⟨z, hz, rfl⟩ := List.mem_map.mp hd
          exact nmA (hhd z hz) (h2 z hz).1 (h2 z hz).2
        refine isNB rfl ?_
        refine isYB rfl ?_
        and_intros
        rw [show cutD (prs.map apD) none (some 1) = (prs.map apD).take 1 from cutHi (k := 1)]
        obtain ⟨z0, rs0, ez⟩ : ∃ z0 rs0, prs = z0 :: rs0 := by
          cases prs with
          | nil => simp at hprl
          | cons z r => exact ⟨z, r, rfl⟩
        have hz0 : z0 ∈ prs := by rw [ez]; exact List.mem_cons_self ..
        rw [show (prs.map apD).take 1 = [apD z0] by rw [ez]; rfl]
        refine mulT2 (by simp) (by simp) ?_
        and_intros
        refine ⟨"apart", ts, nmL ts ls, 2, apsD [z0, z0], 100, rfl, N.web, .tup _ (by simp) fun d hd => ?_, by decide, .inr (.inr ⟨rfl, .inr ⟨[z0, z0], rfl, by simp, fun z hz => ?_, fun bb hb => ?_⟩⟩)⟩
        · have : d = apD z0 := by
            have := hd
            simp at this
            exact this
          rw [this]
          exact nmA (hhd z0 hz0) (h2 z0 hz0).1 (h2 z0 hz0).2
        · have : z = z0 := by simpa using hz
          rw [this]
          exact ⟨hhd z0 hz0, (h2 z0 hz0).1, by have := (h2 z0 hz0).2; omega⟩
        · have e2 : bb = false := by
            cases bb with
            | false => rfl
            | true =>
              have := (hb.mp rfl).1.nd
              simp at this
          rw [e2]
          refine isNB rfl ?_
          exact cl (q a b c)
def sp_k63_right (W : Addr) : DSp := fun ds S Q E => ∃ (p : Addr) (a b c : Int), ds = [.obj p] ∧ S p = some (pan3 a b c) ∧ ∀ a' b' c', Q (.bl true) (S.set p (pan3 a' b' c'))
def w_k63_right (W : Addr) : WS := (wSeq (wAsg (wFn (sp_cel_scene W) [] (wCons (wV 0) (wCons (wC (.int 7)) (wCons (wLst (wCons (wC (.int 0)) (wCons (wC (.int 1)) (wCons (wC (.int 1)) (wCons (wC (.int 4)) wNil))))) wNil)))) (gTl 4 (gC (gV 1) (gC (gV 2) (gC (gV 3) (gC (gV 4) gN))))))
    (wSeq (wAsg (wCall (cStrO W (sp_Web_str W)) (wCons (wV 4) wNil)) (gV 5))
    (wSeq (wFor (wRng1 (wCons (wC (.int 5)) wNil)) (gV 6) (wSeq (wIfS (wOr (wNot (wB (wFn (sp_cel_barR W) [] (wCons (wV 0) (wCons (wV 3) (wCons (wV 2) (wCons (wV 5) wNil))))))) (wNot (wB (wFn (sp_cel_colR W) [] (wCons (wV 0) (wCons (wV 3) (wCons (wV 2) (wCons (wV 5) wNil)))))))) (wRet (wC (.bl false))) wNext)
    (wIfS (wNot (wB (wFn (sp_cel_apR W) [] (wCons (wV 0) (wCons (wV 3) (wCons (wV 2) (wCons (wV 5) wNil))))))) (wRet (wC (.bl false))) wNext)))
    (wRet (wC (.bl true))))))
theorem pure_k63_right (W : Addr) : ∀ ds S Q E, sp_k63_right W ds S Q E → w_k63_right W (endsOf Q) (startD ["_law_cup_here", "_law_many", "_law_links_here", "_law_labels_here", "_law_ground", "_law_page", "_law_turn"] ds) S := by
  rintro ds S Q E ⟨p, a, b, c, rfl, hp, q⟩
  refine xFn ?_
  show w_k63_right W _ [some _, none, none, none, none, none, none] S
  unfold w_k63_right
  and_intros
  refine ⟨p, a, b, c, 7, [0, 1, 1, 4], rfl, hp, by decide, by decide, by simp, by simp, by simp, fun ts ls a b c N hts hls => ?_⟩
  and_intros
  refine strWeb N.web ?_
  and_intros
  refine rng1N (k := 5) (by decide) ?_
  refine forR (fun x : (Int × Int × Int) × Option D => [some (.obj p), some (.int (ts.length : Nat)), some (.lst (ls.map ipD)), some (.lst (plD ts)), some (webD W ts (nmL ts ls)), some (.str (pageOf ts (nmL ts ls))), x.2]) (fun x => S.set p (pan3 x.1.1 x.1.2.1 x.1.2.2)) (fun _ _ => True) ((a, b, c), none) trivial ?_ ?_
  · rintro i ⟨⟨a, b, c⟩, x6⟩ hi -
    and_intros
    refine ⟨p, a, b, c, ts, ls, rfl, set_same, N, fun a b c => ?_⟩
    rw [set_set]
    refine isYB rfl ?_
    and_intros
    refine ⟨p, a, b, c, ts, ls, rfl, set_same, N, fun a b c => ?_⟩
    rw [set_set]
    refine isYB rfl ?_
    and_intros
    refine ⟨p, a, b, c, ts, ls, rfl, set_same, N, by omega, fun a b c => ?_⟩
    rw [set_set]
    refine isYB rfl ?_
    and_intros
    exact .of ((a, b, c), _) trivial
  · rintro ⟨⟨a, b, c⟩, x6⟩ -
    and_intros
    exact cl (q a b c)
def sp_k63_law (W : Addr) : DSp := LawSp 63
def w_k63_law (W : Addr) : WS := (wRet (wCall cAll (wCons (wLcF (wRng1 (wCons (wCall cMax (wCons (wC (.int 2)) (wCons (wCall cMin (wCons (wCall cLen (wCons (wV 0) wNil)) (wCons (wC (.int 5)) wNil))) wNil))) wNil)) (.n 1) wYes (wFn (sp_k63_right W) [] (wCons (wFn (sp_cel_cup W) [] (wCons (wV 0) (wCons (wV 1) wNil))) wNil)) [1]) wNil)))
theorem pure_k63_law (W : Addr) : ∀ ds S Q E, sp_k63_law W ds S Q E → w_k63_law W (endsOf Q) (startD ["_law_cells", "_law_turn"] ds) S := pure_cel_lawN W 5 ⟨by decide, by decide⟩ fun p a b c S Q hp h => ⟨p, a, b, c, rfl, hp, h⟩
end
end L2.DL
namespace L2.DL
open PySem PySem.Spec PyProof.Rows
theorem len_is_name (W : Addr) : ∀ ds S Q E, sp_is_name W ds S Q E → ds.length = ["value"].length := by
  rintro ds S Q E ⟨_, rfl, _⟩
  rfl
theorem len_wrong_place (W : Addr) : ∀ ds S Q E, sp_wrong_place W ds S Q E → ds.length = ["values"].length := by
  rintro ds S Q E ⟨_, rfl, _⟩
  rfl
theorem len_is_pair (W : Addr) : ∀ ds S Q E, sp_is_pair W ds S Q E → ds.length = ["places", "value"].length := by
  rintro ds S Q E ⟨_, _, rfl, _⟩
  rfl
theorem len_wrong_tie (W : Addr) : ∀ ds S Q E, sp_wrong_tie W ds S Q E → ds.length = ["places", "values"].length := by
  rintro ds S Q E ⟨_, _, rfl, _⟩
  rfl
theorem len_check_places (W : Addr) : ∀ ds S Q E, sp_check_places W ds S Q E → ds.length = ["places"].length := by
  rintro ds S Q E ⟨_, rfl, _⟩
  rfl
theorem len_check_ties (W : Addr) : ∀ ds S Q E, sp_check_ties W ds S Q E → ds.length = ["places", "ties"].length := by
  rintro ds S Q E ⟨_, _, rfl, _⟩
  rfl
theorem len_Web_init (W : Addr) : ∀ ds S Q E, sp_Web_init W ds S Q E → ds.length = ["self", "places", "ties"].length := by
  rintro ds S Q E ⟨_, _, _, rfl, _⟩
  rfl
theorem len_Web_read (W : Addr) : ∀ ds S Q E, sp_Web_read W ds S Q E → ds.length = ["cls", "text"].length := by
  rintro ds S Q E ⟨_, _, rfl, _⟩
  rfl
theorem len_Web_len (W : Addr) : ∀ ds S Q E, sp_Web_len W ds S Q E → ds.length = ["self"].length := by
  rintro ds S Q E ⟨_, _, rfl, _⟩
  rfl
theorem len_Web_str (W : Addr) : ∀ ds S Q E, sp_Web_str W ds S Q E → ds.length = ["self"].length := by
  rintro ds S Q E ⟨_, _, rfl, _⟩
  rfl
theorem len_is_integerA (W : Addr) : ∀ ds S Q E, sp_is_integerA W ds S Q E → ds.length = ["value"].length := by
  rintro ds S Q E ⟨_, _, rfl, _⟩
  rfl
theorem len_web_told (W : Addr) : ∀ ds S Q E, sp_web_told W ds S Q E → ds.length = ["text"].length := by
  rintro ds S Q E ⟨_, _, rfl, _⟩
  rfl
theorem len_are_places (W : Addr) : ∀ ds S Q E, sp_are_places W ds S Q E → ds.length = ["web", "value"].length := by
  rintro ds S Q E ⟨_, _, _, _, rfl, _⟩
  rfl
theorem len_shows_barred (W : Addr) : ∀ ds S Q E, sp_shows_barred W ds S Q E → ds.length = ["web", "number", "caps"].length := by
  rintro ds S Q E ⟨_, _, _, _, _, rfl, _⟩
  rfl
theorem len_is_colouring_of (W : Addr) : ∀ ds S Q E, sp_is_colouring_of W ds S Q E → ds.length = ["web", "value"].length := by
  rintro ds S Q E ⟨_, _, _, _, rfl, _⟩
  rfl
theorem len_shows_coloured (W : Addr) : ∀ ds S Q E, sp_shows_coloured W ds S Q E → ds.length = ["web", "number", "colours"].length := by
  rintro ds S Q E ⟨_, _, _, _, _, rfl, _⟩
  rfl
theorem len_is_shut (W : Addr) : ∀ ds S Q E, sp_is_shut W ds S Q E → ds.length = ["web", "value"].length := by
  rintro ds S Q E ⟨_, _, _, rfl, _⟩
  rfl
theorem len_shows_apart (W : Addr) : ∀ ds S Q E, sp_shows_apart W ds S Q E → ds.length = ["web", "number", "pairs"].length := by
  rintro ds S Q E ⟨_, _, _, _, _, rfl, _⟩
  rfl
theorem len_acceptsG (W : Addr) : ∀ ds S Q E, sp_acceptsG W ds S Q E → ds.length = ["claim", "certificate"].length := by
  rintro ds S Q E ⟨_, _, _, _, _, _, rfl, _⟩
  rfl
theorem len_cel_cup (W : Addr) : ∀ ds S Q E, sp_cel_cup W ds S Q E → ds.length = ["_law_cells", "_law_turn"].length := by
  rintro ds S Q E ⟨_, _, rfl, _⟩
  rfl
theorem len_cel_sip (W : Addr) : ∀ ds S Q E, sp_cel_sip W ds S Q E → ds.length = ["_law_cup_here", "_law_top"].length := by
  rintro ds S Q E ⟨_, _, _, _, _, rfl, _⟩
  rfl
theorem len_cel_labels (W : Addr) : ∀ ds S Q E, sp_cel_labels W ds S Q E → ds.length = ["_law_cup_here", "_law_many"].length := by
  rintro ds S Q E ⟨_, _, _, _, _, rfl, _⟩
  rfl
theorem len_cel_links (W : Addr) : ∀ ds S Q E, sp_cel_links W ds S Q E → ds.length = ["_law_cup_here", "_law_many", "_law_way"].length := by
  rintro ds S Q E ⟨_, _, _, _, _, _, rfl, _⟩
  rfl
theorem len_cel_order (W : Addr) : ∀ ds S Q E, sp_cel_order W ds S Q E → ds.length = ["_law_cup_here", "_law_many"].length := by
  rintro ds S Q E ⟨_, _, _, _, _, rfl, _⟩
  rfl
theorem len_cel_web (W : Addr) : ∀ ds S Q E, sp_cel_web W ds S Q E → ds.length = ["_law_labels_here", "_law_links_here"].length := by
  rintro ds S Q E ⟨_, _, rfl, _⟩
  rfl
theorem len_cel_scene (W : Addr) : ∀ ds S Q E, sp_cel_scene W ds S Q E → ds.length = ["_law_cup_here", "_law_most", "_law_ways"].length := by
  rintro ds S Q E ⟨_, _, _, _, _, _, rfl, _⟩
  rfl
theorem len_cel_bentL (W : Addr) : ∀ ds S Q E, sp_cel_bentL W ds S Q E → ds.length = ["_law_cup_here", "_law_lines", "_law_labels_here"].length := by
  rintro ds S Q E ⟨_, _, _, _, _, _, rfl, _⟩
  rfl
theorem len_cel_are_pl (W : Addr) : ∀ ds S Q E, sp_cel_are_pl W ds S Q E → ds.length = ["_law_labels_here", "_law_thing"].length := by
  rintro ds S Q E ⟨_, _, _, rfl, _⟩
  rfl
theorem len_cel_bars (W : Addr) : ∀ ds S Q E, sp_cel_bars W ds S Q E → ds.length = ["_law_labels_here", "_law_links_here", "_law_thing"].length := by
  rintro ds S Q E ⟨_, _, _, _, rfl, _⟩
  rfl
theorem len_cel_barR (W : Addr) : ∀ ds S Q E, sp_cel_barR W ds S Q E → ds.length = ["_law_cup_here", "_law_labels_here", "_law_links_here", "_law_page"].length := by
  rintro ds S Q E ⟨_, _, _, _, _, _, rfl, _⟩
  rfl
theorem len_cel_colR (W : Addr) : ∀ ds S Q E, sp_cel_colR W ds S Q E → ds.length = ["_law_cup_here", "_law_labels_here", "_law_links_here", "_law_page"].length := by
  rintro ds S Q E ⟨_, _, _, _, _, _, rfl, _⟩
  rfl
theorem len_cel_shut (W : Addr) : ∀ ds S Q E, sp_cel_shut W ds S Q E → ds.length = ["_law_many", "_law_links_here", "_law_k"].length := by
  rintro ds S Q E ⟨_, _, _, rfl, _⟩
  rfl
theorem len_cel_apR (W : Addr) : ∀ ds S Q E, sp_cel_apR W ds S Q E → ds.length = ["_law_cup_here", "_law_labels_here", "_law_links_here", "_law_page"].length := by
  rintro ds S Q E ⟨_, _, _, _, _, _, rfl, _⟩
  rfl
theorem len_k63_right (W : Addr) : ∀ ds S Q E, sp_k63_right W ds S Q E → ds.length = ["_law_cup_here"].length := by
  rintro ds S Q E ⟨_, _, _, _, rfl, _⟩
  rfl
theorem len_k63_law (W : Addr) : ∀ ds S Q E, sp_k63_law W ds S Q E → ds.length = ["_law_cells"].length := by
  rintro ds S Q E ⟨_, rfl, _⟩
  rfl
/-! ### the program by places -/
def topS (i : Nat) : Stmt := PySem.Challenge.pw_fewroads_k63_caps_colours_apart_judged.main.body.getD i (.Pass ⟨0, 0, 0, 0⟩)
abbrev s_is_name : Stmt := topS 9
theorem sc_is_name : FnScope ["value", "sign"] ["value"] (defScope s_is_name) := ⟨rfl, rfl, rfl, by decide +kernel, rfl, by decide +kernel, by decide +kernel⟩
abbrev s_wrong_place : Stmt := topS 13
theorem sc_wrong_place : FnScope ["values", "index", "value"] ["values"] (defScope s_wrong_place) := ⟨rfl, rfl, rfl, by decide +kernel, rfl, by decide +kernel, by decide +kernel⟩
abbrev s_is_pair : Stmt := topS 14
theorem sc_is_pair : FnScope ["places", "value", "place"] ["places", "value"] (defScope s_is_pair) := ⟨rfl, rfl, rfl, by decide +kernel, rfl, by decide +kernel, by decide +kernel⟩
abbrev s_wrong_tie : Stmt := topS 15
theorem sc_wrong_tie : FnScope ["places", "values", "seen", "index", "value"] ["places", "values"] (defScope s_wrong_tie) := ⟨rfl, rfl, rfl, by decide +kernel, rfl, by decide +kernel, by decide +kernel⟩
abbrev s_check_places : Stmt := topS 16
theorem sc_check_places : FnScope ["places", "wrong"] ["places"] (defScope s_check_places) := ⟨rfl, rfl, rfl, by decide +kernel, rfl, by decide +kernel, by decide +kernel⟩
abbrev s_check_ties : Stmt := topS 17
theorem sc_check_ties : FnScope ["places", "ties", "wrong"] ["places", "ties"] (defScope s_check_ties) := ⟨rfl, rfl, rfl, by decide +kernel, rfl, by decide +kernel, by decide +kernel⟩
abbrev s_Web_init : Stmt := inClass (topS 18) 0
theorem sc_Web_init : FnScope ["self", "places", "ties", "tie"] ["self", "places", "ties"] (defScope s_Web_init) := ⟨rfl, rfl, rfl, by decide +kernel, rfl, by decide +kernel, by decide +kernel⟩
abbrev s_Web_has_tie : Stmt := inClass (topS 18) 4
abbrev s_Web_read : Stmt := inClass (topS 18) 1
theorem sc_Web_read : FnScope ["cls", "text", "rows", "places", "ties", "row"] ["cls", "text"] (defScope s_Web_read) := ⟨rfl, rfl, rfl, by decide +kernel, rfl, by decide +kernel, by decide +kernel⟩
abbrev s_Web_len : Stmt := inClass (topS 18) 10
theorem sc_Web_len : FnScope ["self"] ["self"] (defScope s_Web_len) := ⟨rfl, rfl, rfl, by decide +kernel, rfl, by decide +kernel, by decide +kernel⟩
abbrev s_Web_str : Stmt := inClass (topS 18) 11
theorem sc_Web_str : FnScope ["self", "words"] ["self"] (defScope s_Web_str) := ⟨rfl, rfl, rfl, by decide +kernel, rfl, by decide +kernel, by decide +kernel⟩
abbrev s_is_integerA : Stmt := topS 8
theorem sc_is_integerA : FnScope ["value"] ["value"] (defScope s_is_integerA) := ⟨rfl, rfl, rfl, by decide +kernel, rfl, by decide +kernel, by decide +kernel⟩
abbrev s_web_told : Stmt := topS 24
theorem sc_web_told : FnScope ["text"] ["text"] (defScope s_web_told) := ⟨rfl, rfl, rfl, by decide +kernel, rfl, by decide +kernel, by decide +kernel⟩
abbrev s_are_places : Stmt := topS 25
theorem sc_are_places : FnScope ["web", "value", "place", "index"] ["web", "value"] (defScope s_are_places) := ⟨rfl, rfl, rfl, by decide +kernel, rfl, by decide +kernel, by decide +kernel⟩
abbrev s_shows_barred : Stmt := topS 27
theorem sc_shows_barred : FnScope ["web", "number", "caps", "begins", "ends", "part", "first", "second"] ["web", "number", "caps"] (defScope s_shows_barred) := ⟨rfl, rfl, rfl, by decide +kernel, rfl, by decide +kernel, by decide +kernel⟩
abbrev s_nv_parted : Stmt := topS 26
abbrev s_nv_long : Stmt := topS 28
abbrev s_is_colouring_of : Stmt := topS 29
theorem sc_is_colouring_of : FnScope ["web", "value", "colours", "colour", "place", "first", "second"] ["web", "value"] (defScope s_is_colouring_of) := ⟨rfl, rfl, rfl, by decide +kernel, rfl, by decide +kernel, by decide +kernel⟩
abbrev s_shows_coloured : Stmt := topS 30
theorem sc_shows_coloured : FnScope ["web", "number", "colours"] ["web", "number", "colours"] (defScope s_shows_coloured) := ⟨rfl, rfl, rfl, by decide +kernel, rfl, by decide +kernel, by decide +kernel⟩
abbrev s_is_shut : Stmt := topS 31
theorem sc_is_shut : FnScope ["web", "value", "first", "second"] ["web", "value"] (defScope s_is_shut) := ⟨rfl, rfl, rfl, by decide +kernel, rfl, by decide +kernel, by decide +kernel⟩
abbrev s_shows_apart : Stmt := topS 32
theorem sc_shows_apart : FnScope ["web", "number", "pairs", "heads", "pair", "head"] ["web", "number", "pairs"] (defScope s_shows_apart) := ⟨rfl, rfl, rfl, by decide +kernel, rfl, by decide +kernel, by decide +kernel⟩
abbrev s_acceptsG : Stmt := topS 33
theorem sc_acceptsG : FnScope ["claim", "certificate", "web"] ["claim", "certificate"] (defScope s_acceptsG) := ⟨rfl, rfl, rfl, by decide +kernel, rfl, by decide +kernel, by decide +kernel⟩
abbrev s_cel_cup : Stmt := topS 35
theorem sc_cel_cup : FnScope ["_law_cells", "_law_turn", "_law_cell", "_law_mixed", "_law_each"] ["_law_cells", "_law_turn"] (defScope s_cel_cup) := ⟨rfl, rfl, rfl, by decide +kernel, rfl, by decide +kernel, by decide +kernel⟩
abbrev s_cel_sip : Stmt := topS 36
theorem sc_cel_sip : FnScope ["_law_cup_here", "_law_top", "_law_digit"] ["_law_cup_here", "_law_top"] (defScope s_cel_sip) := ⟨rfl, rfl, rfl, by decide +kernel, rfl, by decide +kernel, by decide +kernel⟩
abbrev s_cel_labels : Stmt := topS 37
theorem sc_cel_labels : FnScope ["_law_cup_here", "_law_many", "_law_signs", "_law_stem", "_law_found", "_law_k"] ["_law_cup_here", "_law_many"] (defScope s_cel_labels) := ⟨rfl, rfl, rfl, by decide +kernel, rfl, by decide +kernel, by decide +kernel⟩
abbrev s_cel_links : Stmt := topS 38
theorem sc_cel_links : FnScope ["_law_cup_here", "_law_many", "_law_way", "_law_found", "_law_a", "_law_b", "_law_rest", "_law_mixed", "_law_turn"] ["_law_cup_here", "_law_many", "_law_way"] (defScope s_cel_links) := ⟨rfl, rfl, rfl, by decide +kernel, rfl, by decide +kernel, by decide +kernel⟩
abbrev s_cel_order : Stmt := topS 39
theorem sc_cel_order : FnScope ["_law_cup_here", "_law_many", "_law_found", "_law_k"] ["_law_cup_here", "_law_many"] (defScope s_cel_order) := ⟨rfl, rfl, rfl, by decide +kernel, rfl, by decide +kernel, by decide +kernel⟩
abbrev s_cel_web : Stmt := topS 40
theorem sc_cel_web : FnScope ["_law_labels_here", "_law_links_here", "_law_a", "_law_b"] ["_law_labels_here", "_law_links_here"] (defScope s_cel_web) := ⟨rfl, rfl, rfl, by decide +kernel, rfl, by decide +kernel, by decide +kernel⟩
abbrev s_cel_scene : Stmt := topS 41
theorem sc_cel_scene : FnScope ["_law_cup_here", "_law_most", "_law_ways", "_law_many", "_law_order_here", "_law_links_here", "_law_labels_here", "_law_a", "_law_b"] ["_law_cup_here", "_law_most", "_law_ways"] (defScope s_cel_scene) := ⟨rfl, rfl, rfl, by decide +kernel, rfl, by decide +kernel, by decide +kernel⟩
abbrev s_cel_bentL : Stmt := topS 42
theorem sc_cel_bentL : FnScope ["_law_cup_here", "_law_lines", "_law_labels_here", "_law_at", "_law_pick", "_law_line", "_law_label", "_law_odd", "_law_mate", "_law_k", "_law_each"] ["_law_cup_here", "_law_lines", "_law_labels_here"] (defScope s_cel_bentL) := ⟨rfl, rfl, rfl, by decide +kernel, rfl, by decide +kernel, by decide +kernel⟩
abbrev s_cel_are_pl : Stmt := topS 43
theorem sc_cel_are_pl : FnScope ["_law_labels_here", "_law_thing", "_law_each"] ["_law_labels_here", "_law_thing"] (defScope s_cel_are_pl) := ⟨rfl, rfl, rfl, by decide +kernel, rfl, by decide +kernel, by decide +kernel⟩
abbrev s_cel_bars : Stmt := topS 44
theorem sc_cel_bars : FnScope ["_law_labels_here", "_law_links_here", "_law_thing", "_law_part", "_law_a", "_law_b"] ["_law_labels_here", "_law_links_here", "_law_thing"] (defScope s_cel_bars) := ⟨rfl, rfl, rfl, by decide +kernel, rfl, by decide +kernel, by decide +kernel⟩
abbrev s_cel_barR : Stmt := topS 45
theorem sc_cel_barR : FnScope ["_law_cup_here", "_law_labels_here", "_law_links_here", "_law_page", "_law_begins", "_law_spare", "_law_thing", "_law_told", "_law_bars_here", "_law_far", "_law_label", "_law_a", "_law_b"] ["_law_cup_here", "_law_labels_here", "_law_links_here", "_law_page"] (defScope s_cel_barR) := ⟨rfl, rfl, rfl, by decide +kernel, rfl, by decide +kernel, by decide +kernel⟩
abbrev s_cel_colR : Stmt := topS 46
theorem sc_cel_colR : FnScope ["_law_cup_here", "_law_labels_here", "_law_links_here", "_law_page", "_law_many", "_law_thing", "_law_is_good", "_law_far", "_law_due", "_law_k", "_law_each", "_law_a", "_law_b"] ["_law_cup_here", "_law_labels_here", "_law_links_here", "_law_page"] (defScope s_cel_colR) := ⟨rfl, rfl, rfl, by decide +kernel, rfl, by decide +kernel, by decide +kernel⟩
abbrev s_cel_shut : Stmt := topS 47
theorem sc_cel_shut : FnScope ["_law_many", "_law_links_here", "_law_k", "_law_found", "_law_turn", "_law_a", "_law_b"] ["_law_many", "_law_links_here", "_law_k"] (defScope s_cel_shut) := ⟨rfl, rfl, rfl, by decide +kernel, rfl, by decide +kernel, by decide +kernel⟩
abbrev s_cel_apR : Stmt := topS 48
theorem sc_cel_apR : FnScope ["_law_cup_here", "_law_labels_here", "_law_links_here", "_law_page", "_law_many", "_law_pairs", "_law_k", "_law_own", "_law_thing", "_law_heads", "_law_is_good", "_law_head", "_law_shut_here", "_law_others", "_law_far", "_law_j", "_law_pair", "_law_a", "_law_b", "_law_each"] ["_law_cup_here", "_law_labels_here", "_law_links_here", "_law_page"] (defScope s_cel_apR) := ⟨rfl, rfl, rfl, by decide +kernel, rfl, by decide +kernel, by decide +kernel⟩
abbrev s_k63_right : Stmt := topS 49
theorem sc_k63_right : FnScope ["_law_cup_here", "_law_many", "_law_links_here", "_law_labels_here", "_law_ground", "_law_page", "_law_turn"] ["_law_cup_here"] (defScope s_k63_right) := ⟨rfl, rfl, rfl, by decide +kernel, rfl, by decide +kernel, by decide +kernel⟩
abbrev s_k63_law : Stmt := topS 50
theorem sc_k63_law : FnScope ["_law_cells", "_law_turn"] ["_law_cells"] (defScope s_k63_law) := ⟨rfl, rfl, rfl, by decide +kernel, rfl, by decide +kernel, by decide +kernel⟩
abbrev s_g_places : Stmt := inClass (topS 18) 2
theorem sc_g_places : FnScope ["self"] ["self"] (defScope s_g_places) := ⟨rfl, rfl, rfl, by decide +kernel, rfl, by decide +kernel, by decide +kernel⟩
abbrev s_g_ties : Stmt := inClass (topS 18) 3
theorem sc_g_ties : FnScope ["self"] ["self"] (defScope s_g_ties) := ⟨rfl, rfl, rfl, by decide +kernel, rfl, by decide +kernel, by decide +kernel⟩
/-! ### what the top has written -/
structure Txt (P : Program) (w : World) (K : PySem.W.Frag) (mg : Str → Option Value) where
  a_InvalidText : Addr
  m_InvalidText : mg "InvalidText" = some (.ref a_InvalidText)
  n_InvalidText : PySem.W.nsIn K mainGlobals "InvalidText" = some (some (.ref a_InvalidText))
  et : ErrT K nsT msT bsT
  a_SIZES : Addr
  m_SIZES : mg "SIZES" = some (.ref a_SIZES)
  gt_SIZES : GTab K w a_SIZES [("parted", 3), ("barred", 3), ("long", 3), ("coloured", 3), ("apart", 3)]
  a_Web : Addr
  m_Web : mg "Web" = some (.ref a_Web)
  c_Web : Cls K a_Web
  n_marks : NoAttr K a_Web "marks"
  n_pairs : NoAttr K a_Web "pairs"
  n_row : NoAttr K a_Web "row"
  ins_Web : InsOk K a_Web
  kit0 : ∀ n ∈ tyNames, PySem.W.kitOne K (.type n) (.ref a_Web) = some false
  kit1 : PySem.W.kitOne K (.ref a_Web) (.ref a_Web) = some true
  a_is_name : Addr
  d_is_name : FuncData
  F_is_name : Fun K "is_name" "is_name" s_is_name a_is_name d_is_name
  m_is_name : mg "is_name" = some (.ref a_is_name)
  a_wrong_place : Addr
  d_wrong_place : FuncData
  F_wrong_place : Fun K "wrong_place" "wrong_place" s_wrong_place a_wrong_place d_wrong_place
  m_wrong_place : mg "wrong_place" = some (.ref a_wrong_place)
  a_is_pair : Addr
  d_is_pair : FuncData
  F_is_pair : Fun K "is_pair" "is_pair" s_is_pair a_is_pair d_is_pair
  m_is_pair : mg "is_pair" = some (.ref a_is_pair)
  a_wrong_tie : Addr
  d_wrong_tie : FuncData
  F_wrong_tie : Fun K "wrong_tie" "wrong_tie" s_wrong_tie a_wrong_tie d_wrong_tie
  m_wrong_tie : mg "wrong_tie" = some (.ref a_wrong_tie)
  a_check_places : Addr
  d_check_places : FuncData
  F_check_places : Fun K "check_places" "check_places" s_check_places a_check_places d_check_places
  m_check_places : mg "check_places" = some (.ref a_check_places)
  a_check_ties : Addr
  d_check_ties : FuncData
  F_check_ties : Fun K "check_ties" "check_ties" s_check_ties a_check_ties d_check_ties
  m_check_ties : mg "check_ties" = some (.ref a_check_ties)
  a_Web_init : Addr
  d_Web_init : FuncData
  v_Web_init : V
  F_Web_init : FunD K "__init__" "Web.__init__" (defArgs s_Web_init) (defBody s_Web_init) (defScope s_Web_init) [v_Web_init] [] a_Web_init d_Web_init
  k_Web : Mk K a_Web a_Web_init
  a_Web_has_tie : Addr
  d_Web_has_tie : FuncData
  F_Web_has_tie : Fun K "has_tie" "Web.has_tie" s_Web_has_tie a_Web_has_tie d_Web_has_tie
  h_has_tie : Meth K a_Web "has_tie" a_Web_has_tie
  a_Web_read : Addr
  d_Web_read : FuncData
  F_Web_read : Fun K "read" "Web.read" s_Web_read a_Web_read d_Web_read
  r_Web : ClX.CRead K a_Web (.type "type")
  ep_read : Addr
  e_read : ClX.CMet K a_Web (.type "type") "read" ep_read a_Web_read
  a_Web_len : Addr
  d_Web_len : FuncData
  F_Web_len : Fun K "__len__" "Web.__len__" s_Web_len a_Web_len d_Web_len
  h___len__ : Meth K a_Web "__len__" a_Web_len
  a_Web_str : Addr
  d_Web_str : FuncData
  F_Web_str : Fun K "__str__" "Web.__str__" s_Web_str a_Web_str d_Web_str
  h___str__ : Meth K a_Web "__str__" a_Web_str
  a_is_integerA : Addr
  d_is_integerA : FuncData
  F_is_integerA : Fun K "is_integer" "is_integer" s_is_integerA a_is_integerA d_is_integerA
  m_is_integerA : mg "is_integer" = some (.ref a_is_integerA)
  a_web_told : Addr
  d_web_told : FuncData
  F_web_told : Fun K "web_told" "web_told" s_web_told a_web_told d_web_told
  m_web_told : mg "web_told" = some (.ref a_web_told)
  a_are_places : Addr
  d_are_places : FuncData
  F_are_places : Fun K "are_places" "are_places" s_are_places a_are_places d_are_places
  m_are_places : mg "are_places" = some (.ref a_are_places)
  a_shows_barred : Addr
  d_shows_barred : FuncData
  F_shows_barred : Fun K "shows_barred" "shows_barred" s_shows_barred a_shows_barred d_shows_barred
  m_shows_barred : mg "shows_barred" = some (.ref a_shows_barred)
  a_nv_parted : Addr
  d_nv_parted : FuncData
  F_nv_parted : Fun K "shows_parted" "shows_parted" s_nv_parted a_nv_parted d_nv_parted
  m_nv_parted : mg "shows_parted" = some (.ref a_nv_parted)
  a_nv_long : Addr
  d_nv_long : FuncData
  F_nv_long : Fun K "shows_long" "shows_long" s_nv_long a_nv_long d_nv_long
  m_nv_long : mg "shows_long" = some (.ref a_nv_long)
  a_is_colouring_of : Addr
  d_is_colouring_of : FuncData
  F_is_colouring_of : Fun K "is_colouring_of" "is_colouring_of" s_is_colouring_of a_is_colouring_of d_is_colouring_of
  m_is_colouring_of : mg "is_colouring_of" = some (.ref a_is_colouring_of)
  a_shows_coloured : Addr
  d_shows_coloured : FuncData
  F_shows_coloured : Fun K "shows_coloured" "shows_coloured" s_shows_coloured a_shows_coloured d_shows_coloured
  m_shows_coloured : mg "shows_coloured" = some (.ref a_shows_coloured)
  a_is_shut : Addr
  d_is_shut : FuncData
  F_is_shut : Fun K "is_shut" "is_shut" s_is_shut a_is_shut d_is_shut
  m_is_shut : mg "is_shut" = some (.ref a_is_shut)
  a_shows_apart : Addr
  d_shows_apart : FuncData
  F_shows_apart : Fun K "shows_apart" "shows_apart" s_shows_apart a_shows_apart d_shows_apart
  m_shows_apart : mg "shows_apart" = some (.ref a_shows_apart)
  a_acceptsG : Addr
  d_acceptsG : FuncData
  F_acceptsG : Fun K "accepts" "accepts" s_acceptsG a_acceptsG d_acceptsG
  m_acceptsG : mg "accepts" = some (.ref a_acceptsG)
  a_cel_cup : Addr
  d_cel_cup : FuncData
  F_cel_cup : Fun K "_law_cup" "_law_cup" s_cel_cup a_cel_cup d_cel_cup
  m_cel_cup : mg "_law_cup" = some (.ref a_cel_cup)
  a_cel_sip : Addr
  d_cel_sip : FuncData
  F_cel_sip : Fun K "_law_sip" "_law_sip" s_cel_sip a_cel_sip d_cel_sip
  m_cel_sip : mg "_law_sip" = some (.ref a_cel_sip)
  a_cel_labels : Addr
  d_cel_labels : FuncData
  F_cel_labels : Fun K "_law_labels" "_law_labels" s_cel_labels a_cel_labels d_cel_labels
  m_cel_labels : mg "_law_labels" = some (.ref a_cel_labels)
  a_cel_links : Addr
  d_cel_links : FuncData
  F_cel_links : Fun K "_law_links" "_law_links" s_cel_links a_cel_links d_cel_links
  m_cel_links : mg "_law_links" = some (.ref a_cel_links)
  a_cel_order : Addr
  d_cel_order : FuncData
  F_cel_order : Fun K "_law_order" "_law_order" s_cel_order a_cel_order d_cel_order
  m_cel_order : mg "_law_order" = some (.ref a_cel_order)
  a_cel_web : Addr
  d_cel_web : FuncData
  F_cel_web : Fun K "_law_web" "_law_web" s_cel_web a_cel_web d_cel_web
  m_cel_web : mg "_law_web" = some (.ref a_cel_web)
  a_cel_scene : Addr
  d_cel_scene : FuncData
  F_cel_scene : Fun K "_law_scene" "_law_scene" s_cel_scene a_cel_scene d_cel_scene
  m_cel_scene : mg "_law_scene" = some (.ref a_cel_scene)
  a_cel_bentL : Addr
  d_cel_bentL : FuncData
  F_cel_bentL : Fun K "_law_bent_lines" "_law_bent_lines" s_cel_bentL a_cel_bentL d_cel_bentL
  m_cel_bentL : mg "_law_bent_lines" = some (.ref a_cel_bentL)
  a_cel_are_pl : Addr
  d_cel_are_pl : FuncData
  F_cel_are_pl : Fun K "_law_are_places" "_law_are_places" s_cel_are_pl a_cel_are_pl d_cel_are_pl
  m_cel_are_pl : mg "_law_are_places" = some (.ref a_cel_are_pl)
  a_cel_bars : Addr
  d_cel_bars : FuncData
  F_cel_bars : Fun K "_law_bars" "_law_bars" s_cel_bars a_cel_bars d_cel_bars
  m_cel_bars : mg "_law_bars" = some (.ref a_cel_bars)
  a_cel_barR : Addr
  d_cel_barR : FuncData
  F_cel_barR : Fun K "_law_barred_right" "_law_barred_right" s_cel_barR a_cel_barR d_cel_barR
  m_cel_barR : mg "_law_barred_right" = some (.ref a_cel_barR)
  a_cel_colR : Addr
  d_cel_colR : FuncData
  F_cel_colR : Fun K "_law_coloured_right" "_law_coloured_right" s_cel_colR a_cel_colR d_cel_colR
  m_cel_colR : mg "_law_coloured_right" = some (.ref a_cel_colR)
  a_cel_shut : Addr
  d_cel_shut : FuncData
  F_cel_shut : Fun K "_law_shut" "_law_shut" s_cel_shut a_cel_shut d_cel_shut
  m_cel_shut : mg "_law_shut" = some (.ref a_cel_shut)
  a_cel_apR : Addr
  d_cel_apR : FuncData
  F_cel_apR : Fun K "_law_apart_right" "_law_apart_right" s_cel_apR a_cel_apR d_cel_apR
  m_cel_apR : mg "_law_apart_right" = some (.ref a_cel_apR)
  a_k63_right : Addr
  d_k63_right : FuncData
  F_k63_right : Fun K "_law_right" "_law_right" s_k63_right a_k63_right d_k63_right
  m_k63_right : mg "_law_right" = some (.ref a_k63_right)
  a_k63_law : Addr
  d_k63_law : FuncData
  F_k63_law : Fun K "law" "law" s_k63_law a_k63_law d_k63_law
  m_k63_law : mg "law" = some (.ref a_k63_law)
  a_g_places : Addr
  d_g_places : FuncData
  F_g_places : Fun K "places" "Web.places" s_g_places a_g_places d_g_places
  q_places : Addr
  p_places : PropOf K a_Web "places" q_places a_g_places
  a_g_ties : Addr
  d_g_ties : FuncData
  F_g_ties : Fun K "ties" "Web.ties" s_g_ties a_g_ties d_g_ties
  q_ties : Addr
  p_ties : PropOf K a_Web "ties" q_ties a_g_ties
  t_LETTERS : Tok
  m_LETTERS : mg "LETTERS" = some (.str "abcdefghijklmnopqrstuvwxyz" t_LETTERS)
  t_MOST_PLACES : Tok
  m_MOST_PLACES : mg "MOST_PLACES" = some (.int 40 t_MOST_PLACES)
  t_MOST_TIES : Tok
  m_MOST_TIES : mg "MOST_TIES" = some (.int 200 t_MOST_TIES)
  z_abs : mg "abs" = none
  z_all : mg "all" = none
  z_bool : mg "bool" = none
  z_divmod : mg "divmod" = none
  z_enumerate : mg "enumerate" = none
  z_int : mg "int" = none
  z_isinstance : mg "isinstance" = none
  z_len : mg "len" = none
  z_list : mg "list" = none
  z_max : mg "max" = none
  z_min : mg "min" = none
  z_range : mg "range" = none
  z_repr : mg "repr" = none
  z_set : mg "set" = none
  z_sorted : mg "sorted" = none
  z_str : mg "str" = none
  z_tuple : mg "tuple" = none
  z_zip : mg "zip" = none
section
variable {P : Program} {w : World} {K : PySem.W.Frag} {mg : Str → Option Value} {base : Heap}
theorem g_places (T : Txt P w K mg) : FnOk P w K mg base CX0 1 T.a_g_places T.d_g_places ["self"] (getSp T.a_Web "row") := by
  obtain ⟨oc, od, kV, doc, pm, an, cdv, ct, osl, e, lk, hcd⟩ := T.F_g_places.ex
  rw [e] at lk ⊢
  exact fn_getter lk hcd sc_g_places rfl rfl T.c_Web T.n_row
theorem b_places (T : Txt P w K mg) : Binds K T.d_g_places ["self"] [] := T.F_g_places.binds fun _ _ _ _ _ _ us hl => match us, hl with | [_], _ => rfl
theorem g_ties (T : Txt P w K mg) : FnOk P w K mg base CX0 1 T.a_g_ties T.d_g_ties ["self"] (getSp T.a_Web "pairs") := by
  obtain ⟨oc, od, kV, doc, pm, an, cdv, ct, osl, e, lk, hcd⟩ := T.F_g_ties.ex
  rw [e] at lk ⊢
  exact fn_getter lk hcd sc_g_ties rfl rfl T.c_Web T.n_pairs
theorem b_ties (T : Txt P w K mg) : Binds K T.d_g_ties ["self"] [] := T.F_g_ties.binds fun _ _ _ _ _ _ us hl => match us, hl with | [_], _ => rfl
theorem b_is_name {f : Addr} {fd : FuncData} (F : Fun K "is_name" "is_name" s_is_name f fd) : Binds K fd ["value"] [] := F.binds fun _ _ _ _ _ _ us hl => match us, hl with | [_], _ => rfl
theorem b_wrong_place {f : Addr} {fd : FuncData} (F : Fun K "wrong_place" "wrong_place" s_wrong_place f fd) : Binds K fd ["values"] [] := F.binds fun _ _ _ _ _ _ us hl => match us, hl with | [_], _ => rfl
theorem b_is_pair {f : Addr} {fd : FuncData} (F : Fun K "is_pair" "is_pair" s_is_pair f fd) : Binds K fd ["places", "value"] [] := F.binds fun _ _ _ _ _ _ us hl => match us, hl with | [_, _], _ => rfl
theorem b_wrong_tie {f : Addr} {fd : FuncData} (F : Fun K "wrong_tie" "wrong_tie" s_wrong_tie f fd) : Binds K fd ["places", "values"] [] := F.binds fun _ _ _ _ _ _ us hl => match us, hl with | [_, _], _ => rfl
theorem b_check_places {f : Addr} {fd : FuncData} (F : Fun K "check_places" "check_places" s_check_places f fd) : Binds K fd ["places"] [] := F.binds fun _ _ _ _ _ _ us hl => match us, hl with | [_], _ => rfl
theorem b_check_ties {f : Addr} {fd : FuncData} (F : Fun K "check_ties" "check_ties" s_check_ties f fd) : Binds K fd ["places", "ties"] [] := F.binds fun _ _ _ _ _ _ us hl => match us, hl with | [_, _], _ => rfl
theorem b_Web_init (T : Txt P w K mg) : Binds K T.d_Web_init ["self", "places", "ties"] [] := by
  obtain ⟨ds, h1, h2⟩ := T.F_Web_init.binds1 (ps := ["self", "places", "ties"]) 3 1 (by simp) (by rfl) (fun _ _ _ _ _ _ _ us its hl hi => match us, its, hl, hi with | [_, _, _], [_], _, _ => ⟨_, rfl, rfl⟩)
  cases h1
  exact h2
theorem b_Web_read {f : Addr} {fd : FuncData} (F : Fun K "read" "Web.read" s_Web_read f fd) : Binds K fd ["cls", "text"] [] := F.binds fun _ _ _ _ _ _ us hl => match us, hl with | [_, _], _ => rfl
theorem b_Web_len {f : Addr} {fd : FuncData} (F : Fun K "__len__" "Web.__len__" s_Web_len f fd) : Binds K fd ["self"] [] := F.binds fun _ _ _ _ _ _ us hl => match us, hl with | [_], _ => rfl
theorem b_Web_str {f : Addr} {fd : FuncData} (F : Fun K "__str__" "Web.__str__" s_Web_str f fd) : Binds K fd ["self"] [] := F.binds fun _ _ _ _ _ _ us hl => match us, hl with | [_], _ => rfl
theorem b_is_integerA {f : Addr} {fd : FuncData} (F : Fun K "is_integer" "is_integer" s_is_integerA f fd) : Binds K fd ["value"] [] := F.binds fun _ _ _ _ _ _ us hl => match us, hl with | [_], _ => rfl
theorem b_web_told {f : Addr} {fd : FuncData} (F : Fun K "web_told" "web_told" s_web_told f fd) : Binds K fd ["text"] [] := F.binds fun _ _ _ _ _ _ us hl => match us, hl with | [_], _ => rfl
theorem b_are_places {f : Addr} {fd : FuncData} (F : Fun K "are_places" "are_places" s_are_places f fd) : Binds K fd ["web", "value"] [] := F.binds fun _ _ _ _ _ _ us hl => match us, hl with | [_, _], _ => rfl
theorem b_shows_barred {f : Addr} {fd : FuncData} (F : Fun K "shows_barred" "shows_barred" s_shows_barred f fd) : Binds K fd ["web", "number", "caps"] [] := F.binds fun _ _ _ _ _ _ us hl => match us, hl with | [_, _, _], _ => rfl
theorem b_nv_parted {f : Addr} {fd : FuncData} (F : Fun K "shows_parted" "shows_parted" s_nv_parted f fd) : Binds K fd ["web", "number", "parting"] [] := F.binds fun _ _ _ _ _ _ us hl => match us, hl with | [_, _, _], _ => rfl
theorem b_nv_long {f : Addr} {fd : FuncData} (F : Fun K "shows_long" "shows_long" s_nv_long f fd) : Binds K fd ["web", "number", "road"] [] := F.binds fun _ _ _ _ _ _ us hl => match us, hl with | [_, _, _], _ => rfl
theorem b_is_colouring_of {f : Addr} {fd : FuncData} (F : Fun K "is_colouring_of" "is_colouring_of" s_is_colouring_of f fd) : Binds K fd ["web", "value"] [] := F.binds fun _ _ _ _ _ _ us hl => match us, hl with | [_, _], _ => rfl
theorem b_shows_coloured {f : Addr} {fd : FuncData} (F : Fun K "shows_coloured" "shows_coloured" s_shows_coloured f fd) : Binds K fd ["web", "number", "colours"] [] := F.binds fun _ _ _ _ _ _ us hl => match us, hl with | [_, _, _], _ => rfl
theorem b_is_shut {f : Addr} {fd : FuncData} (F : Fun K "is_shut" "is_shut" s_is_shut f fd) : Binds K fd ["web", "value"] [] := F.binds fun _ _ _ _ _ _ us hl => match us, hl with | [_, _], _ => rfl
theorem b_shows_apart {f : Addr} {fd : FuncData} (F : Fun K "shows_apart" "shows_apart" s_shows_apart f fd) : Binds K fd ["web", "number", "pairs"] [] := F.binds fun _ _ _ _ _ _ us hl => match us, hl with | [_, _, _], _ => rfl
theorem b_acceptsG {f : Addr} {fd : FuncData} (F : Fun K "accepts" "accepts" s_acceptsG f fd) : Binds K fd ["claim", "certificate"] [] := F.binds fun _ _ _ _ _ _ us hl => match us, hl with | [_, _], _ => rfl
theorem b_cel_cup {f : Addr} {fd : FuncData} (F : Fun K "_law_cup" "_law_cup" s_cel_cup f fd) : Binds K fd ["_law_cells", "_law_turn"] [] := F.binds fun _ _ _ _ _ _ us hl => match us, hl with | [_, _], _ => rfl
theorem b_cel_sip {f : Addr} {fd : FuncData} (F : Fun K "_law_sip" "_law_sip" s_cel_sip f fd) : Binds K fd ["_law_cup_here", "_law_top"] [] := F.binds fun _ _ _ _ _ _ us hl => match us, hl with | [_, _], _ => rfl
theorem b_cel_labels {f : Addr} {fd : FuncData} (F : Fun K "_law_labels" "_law_labels" s_cel_labels f fd) : Binds K fd ["_law_cup_here", "_law_many"] [] := F.binds fun _ _ _ _ _ _ us hl => match us, hl with | [_, _], _ => rfl
theorem b_cel_links {f : Addr} {fd : FuncData} (F : Fun K "_law_links" "_law_links" s_cel_links f fd) : Binds K fd ["_law_cup_here", "_law_many", "_law_way"] [] := F.binds fun _ _ _ _ _ _ us hl => match us, hl with | [_, _, _], _ => rfl
theorem b_cel_order {f : Addr} {fd : FuncData} (F : Fun K "_law_order" "_law_order" s_cel_order f fd) : Binds K fd ["_law_cup_here", "_law_many"] [] := F.binds fun _ _ _ _ _ _ us hl => match us, hl with | [_, _], _ => rfl
theorem b_cel_web {f : Addr} {fd : FuncData} (F : Fun K "_law_web" "_law_web" s_cel_web f fd) : Binds K fd ["_law_labels_here", "_law_links_here"] [] := F.binds fun _ _ _ _ _ _ us hl => match us, hl with | [_, _], _ => rfl
theorem b_cel_scene {f : Addr} {fd : FuncData} (F : Fun K "_law_scene" "_law_scene" s_cel_scene f fd) : Binds K fd ["_law_cup_here", "_law_most", "_law_ways"] [] := F.binds fun _ _ _ _ _ _ us hl => match us, hl with | [_, _, _], _ => rfl
theorem b_cel_bentL {f : Addr} {fd : FuncData} (F : Fun K "_law_bent_lines" "_law_bent_lines" s_cel_bentL f fd) : Binds K fd ["_law_cup_here", "_law_lines", "_law_labels_here"] [] := F.binds fun _ _ _ _ _ _ us hl => match us, hl with | [_, _, _], _ => rfl
theorem b_cel_are_pl {f : Addr} {fd : FuncData} (F : Fun K "_law_are_places" "_law_are_places" s_cel_are_pl f fd) : Binds K fd ["_law_labels_here", "_law_thing"] [] := F.binds fun _ _ _ _ _ _ us hl => match us, hl with | [_, _], _ => rfl
theorem b_cel_bars {f : Addr} {fd : FuncData} (F : Fun K "_law_bars" "_law_bars" s_cel_bars f fd) : Binds K fd ["_law_labels_here", "_law_links_here", "_law_thing"] [] := F.binds fun _ _ _ _ _ _ us hl => match us, hl with | [_, _, _], _ => rfl
theorem b_cel_barR {f : Addr} {fd : FuncData} (F : Fun K "_law_barred_right" "_law_barred_right" s_cel_barR f fd) : Binds K fd ["_law_cup_here", "_law_labels_here", "_law_links_here", "_law_page"] [] := F.binds fun _ _ _ _ _ _ us hl => match us, hl with | [_, _, _, _], _ => rfl
theorem b_cel_colR {f : Addr} {fd : FuncData} (F : Fun K "_law_coloured_right" "_law_coloured_right" s_cel_colR f fd) : Binds K fd ["_law_cup_here", "_law_labels_here", "_law_links_here", "_law_page"] [] := F.binds fun _ _ _ _ _ _ us hl => match us, hl with | [_, _, _, _], _ => rfl
theorem b_cel_shut {f : Addr} {fd : FuncData} (F : Fun K "_law_shut" "_law_shut" s_cel_shut f fd) : Binds K fd ["_law_many", "_law_links_here", "_law_k"] [] := F.binds fun _ _ _ _ _ _ us hl => match us, hl with | [_, _, _], _ => rfl
theorem b_cel_apR {f : Addr} {fd : FuncData} (F : Fun K "_law_apart_right" "_law_apart_right" s_cel_apR f fd) : Binds K fd ["_law_cup_here", "_law_labels_here", "_law_links_here", "_law_page"] [] := F.binds fun _ _ _ _ _ _ us hl => match us, hl with | [_, _, _, _], _ => rfl
theorem b_k63_right {f : Addr} {fd : FuncData} (F : Fun K "_law_right" "_law_right" s_k63_right f fd) : Binds K fd ["_law_cup_here"] [] := F.binds fun _ _ _ _ _ _ us hl => match us, hl with | [_], _ => rfl
theorem kb_acceptsG_10 {f : Addr} {fd : FuncData} (F : Fun K "accepts" "accepts" s_acceptsG f fd) : KBinds K fd ["claim", "certificate"] ["certificate", "claim"] perm_10 perm_10 := by
  obtain ⟨oc, od, kV, doc, pm, an, cdv, ct, osl, rfl, lk, hcd⟩ := F.ex
  refine ⟨fun s us ws X hl => ?_, fun h1 h2 => perm_10_rel h1 h2⟩
  obtain ⟨rfl, x0, x1, rfl⟩ := perm_10_of hl
  exact .of_eq rfl
/-! ### each def keeps its promise -/
theorem ok_is_name (T : Txt P w K mg) : FnD P w K mg base 1 T.a_is_name T.d_is_name ["value"] (sp_is_name T.a_Web) := by
  refine fnD_ok (w0 := w_is_name T.a_Web) (fun_at T.F_is_name) sc_is_name (len_is_name _) (fun cdv A outer s H E hr hg => ?_) (pure_is_name T.a_Web)
  exact (dss_one (ds_ret (de_and (de_callB (dc_isiT "str" [] (by decide) (fun _ h => nomatch h)) (by rfl) T.z_isinstance boot_isinstance (da_cons (de_v 0) (da_cons (de_bT T.z_str boot_str) da_nil))) (de_and (de_ch do_lt do_lt de_int (de_callB dc_len (by rfl) T.z_len boot_len (da_cons (de_v 0) da_nil)) de_int) (de_one (de_callB (dc_all rfl) (by rfl) T.z_all boot_all (da_cons (de_lcP rfl sc_is_name.nd (di_str (de_v 0)) (own := [("sign", 1)]) (nt := (.n 1)) (blkOk_by (by kernel_rfl)) (by decide) (fun _ _ _ _ _ => (pg_name (i := 1) sc_is_name.nd rfl (.inl rfl))) (fun _ _ _ _ _ => dts_nil) (fun _ _ _ _ _ => (de_c (do_in (u65 hr)) (de_v 1) (de_gS T.m_LETTERS)))) da_nil)))))))
theorem ok_wrong_place (T : Txt P w K mg) : FnD P w K mg base 2 T.a_wrong_place T.d_wrong_place ["values"] (sp_wrong_place T.a_Web) := by
  refine fnD_ok (w0 := w_wrong_place T.a_Web) (fun_at T.F_wrong_place) sc_wrong_place (len_wrong_place _) (fun cdv A outer s H E hr hg => ?_) (pure_wrong_place T.a_Web)
  exact (dss_cons (ds_for PassesOwn.never rfl (di_enum T.z_enumerate (da_cons (de_v 0) da_nil)) (dg_tup rfl (dgs_cons (dg_v (i := 1) sc_wrong_place.nd) (dgs_cons (dg_v (i := 2) sc_wrong_place.nd) dgs_nil))) (dss_one (ds_if (dw_pt (dw_or (dt_c (do_eq (u65 hr)) (de_v 1) (de_gI T.m_MOST_PLACES)) (dw_or (dt_not (dt_b (de_fn (FnG.up (ok_is_name T) (by decide)) hr hg T.m_is_name T.F_is_name.kp (b_is_name T.F_is_name) .nil lits_nil (da_cons (de_v 2) da_nil)))) (dw_or1 (dt_c (do_in (u65 hr)) (de_v 2) (de_sl (de_v 0) dp_none (dp_some (de_v 1)))))))) (dss_one (ds_ret (de_v 1))) dss_nil)))
    (dss_one (ds_ret de_non)))
theorem ok_is_pair (T : Txt P w K mg) : FnD P w K mg base 1 T.a_is_pair T.d_is_pair ["places", "value"] (sp_is_pair T.a_Web) := by
  refine fnD_ok (w0 := w_is_pair T.a_Web) (fun_at T.F_is_pair) sc_is_pair (len_is_pair _) (fun cdv A outer s H E hr hg => ?_) (pure_is_pair T.a_Web)
  exact (dss_cons (ds_if (dw_pt (dw_or (dt_not (dt_b (de_callB (dc_isiT "tuple" [] (by decide) (fun _ h => nomatch h)) (by rfl) T.z_isinstance boot_isinstance (da_cons (de_v 1) (da_cons (de_bT T.z_tuple boot_tuple) da_nil))))) (dw_or1 (dt_c (do_ne (u65 hr)) (de_callB dc_len (by rfl) T.z_len boot_len (da_cons (de_v 1) da_nil)) de_int)))) (dss_one (ds_ret de_bl)) dss_nil)
    (dss_one (ds_ret (de_and (de_callB (dc_all rfl) (by rfl) T.z_all boot_all (da_cons (de_lcP rfl sc_is_pair.nd (di_seq (de_v 1)) (own := [("place", 2)]) (nt := (.n 2)) (blkOk_by (by kernel_rfl)) (by decide) (fun _ _ _ _ _ => (pg_name (i := 2) sc_is_pair.nd rfl (.inl rfl))) (fun _ _ _ _ _ => dts_nil) (fun _ _ _ _ _ => (de_and (de_callB (dc_isiT "str" [] (by decide) (fun _ h => nomatch h)) (by rfl) T.z_isinstance boot_isinstance (da_cons (de_v 2) (da_cons (de_bT T.z_str boot_str) da_nil))) (de_one (de_c (do_in (u65 hr)) (de_v 2) (de_v 0)))))) da_nil)) (de_one (de_c (do_ne (u65 hr)) (de_ix (u65 hr) (de_v 1) de_int) (de_ix (u65 hr) (de_v 1) de_int)))))))
theorem ok_wrong_tie (T : Txt P w K mg) : FnD P w K mg base 2 T.a_wrong_tie T.d_wrong_tie ["places", "values"] (sp_wrong_tie T.a_Web) := by
  refine fnD_ok (w0 := w_wrong_tie T.a_Web) (fun_at T.F_wrong_tie) sc_wrong_tie (len_wrong_tie _) (fun cdv A outer s H E hr hg => ?_) (pure_wrong_tie T.a_Web)
  exact (dss_cons (ds_set (i := 2) sc_wrong_tie.nd de_dnewT)
    (dss_cons (ds_for PassesOwn.never rfl (di_enum T.z_enumerate (da_cons (de_v 1) da_nil)) (dg_tup rfl (dgs_cons (dg_v (i := 3) sc_wrong_tie.nd) (dgs_cons (dg_v (i := 4) sc_wrong_tie.nd) dgs_nil))) (dss_cons (ds_if (dw_pt (dw_or (dt_c (do_eq (u65 hr)) (de_v 3) (de_gI T.m_MOST_TIES)) (dw_or (dt_not (dt_b (de_fn (FnG.up (ok_is_pair T) (by decide)) hr hg T.m_is_pair T.F_is_pair.kp (b_is_pair T.F_is_pair) .nil lits_nil (da_cons (de_v 0) (da_cons (de_v 4) da_nil))))) (dw_or1 (dt_c (do_in (u65 hr)) (de_v 4) (de_v 2)))))) (dss_one (ds_ret (de_v 3))) dss_nil)
    (dss_one (ds_sub (u65 hr) (de_v 2) (de_v 4) de_bl))))
    (dss_one (ds_ret de_non))))
theorem ok_check_places (T : Txt P w K mg) : FnD P w K mg base 3 T.a_check_places T.d_check_places ["places"] (sp_check_places T.a_Web) := by
  refine fnD_ok (w0 := w_check_places T.a_Web) (fun_at T.F_check_places) sc_check_places (len_check_places _) (fun cdv A outer s H E hr hg => ?_) (pure_check_places T.a_Web)
  exact (dss_cons (ds_if (dw_pt (dw_or (dt_not (dt_b (de_callB (dc_isiT "tuple" [] (by decide) (fun _ h => nomatch h)) (by rfl) T.z_isinstance boot_isinstance (da_cons (de_v 0) (da_cons (de_bT T.z_tuple boot_tuple) da_nil))))) (dw_or1 (dt_c (do_eq (u65 hr)) (de_v 0) (de_tup da_nil))))) (dss_one ds_never) dss_nil)
    (dss_cons (ds_set (i := 1) sc_check_places.nd (de_fn (FnG.up (ok_wrong_place T) (by decide)) hr hg T.m_wrong_place T.F_wrong_place.kp (b_wrong_place T.F_wrong_place) .nil lits_nil (da_cons (de_v 0) da_nil)))
    (dss_one (ds_if (dt_c do_notN (de_v 1) de_non) (dss_one ds_never) dss_nil))))
theorem ok_check_ties (T : Txt P w K mg) : FnD P w K mg base 3 T.a_check_ties T.d_check_ties ["places", "ties"] (sp_check_ties T.a_Web) := by
  refine fnD_ok (w0 := w_check_ties T.a_Web) (fun_at T.F_check_ties) sc_check_ties (len_check_ties _) (fun cdv A outer s H E hr hg => ?_) (pure_check_ties T.a_Web)
  exact (dss_cons (ds_if (dt_not (dt_b (de_callB (dc_isiT "tuple" [] (by decide) (fun _ h => nomatch h)) (by rfl) T.z_isinstance boot_isinstance (da_cons (de_v 1) (da_cons (de_bT T.z_tuple boot_tuple) da_nil))))) (dss_one ds_never) dss_nil)
    (dss_cons (ds_set (i := 2) sc_check_ties.nd (de_fn (FnG.up (ok_wrong_tie T) (by decide)) hr hg T.m_wrong_tie T.F_wrong_tie.kp (b_wrong_tie T.F_wrong_tie) .nil lits_nil (da_cons (de_v 0) (da_cons (de_v 1) da_nil))))
    (dss_one (ds_if (dt_c do_notN (de_v 2) de_non) (dss_one ds_never) dss_nil))))
theorem ok_Web_init (T : Txt P w K mg) : FnD P w K mg base 4 T.a_Web_init T.d_Web_init ["self", "places", "ties"] (sp_Web_init T.a_Web) := by
  refine fnD_ok (w0 := w_Web_init T.a_Web) (funD_at T.F_Web_init) sc_Web_init (len_Web_init _) (fun cdv A outer s H E hr hg => ?_) (pure_Web_init T.a_Web)
  exact (dss_cons (ds_expr (de_fn (FnG.up (ok_check_places T) (by decide)) hr hg T.m_check_places T.F_check_places.kp (b_check_places T.F_check_places) .nil lits_nil (da_cons (de_v 1) da_nil)))
    (dss_cons (ds_expr (de_fn (FnG.up (ok_check_ties T) (by decide)) hr hg T.m_check_ties T.F_check_ties.kp (b_check_ties T.F_check_ties) .nil lits_nil (da_cons (de_v 1) (da_cons (de_v 2) da_nil))))
    (dss_cons (ds_setF T.c_Web T.n_row (de_v 0) (de_v 1))
    (dss_cons (ds_setF T.c_Web T.n_pairs (de_v 0) (de_v 2))
    (dss_one (ds_setF T.c_Web T.n_marks (de_v 0) (de_dcP (t := true) (u65 hr) rfl sc_Web_init.nd (di_seq (de_v 2)) (own := [("tie", 3)]) (nt := (.n 3)) (blkOk_by (by kernel_rfl)) (by decide) (fun _ _ _ _ _ => (pg_name (i := 3) sc_Web_init.nd rfl (.inl rfl))) (fun _ _ _ _ _ => dts_nil) (fun _ _ _ _ _ => (de_v 3)) (fun _ _ _ _ _ => de_bl))))))))
theorem ok_Web_read (T : Txt P w K mg) : FnD P w K mg base 6 T.a_Web_read T.d_Web_read ["cls", "text"] (sp_Web_read T.a_Web) := by
  refine fnD_ok (w0 := w_Web_read T.a_Web) (fun_at T.F_Web_read) sc_Web_read (len_Web_read _) (fun cdv A outer s H E hr hg => ?_) (pure_Web_read T.a_Web)
  exact (dss_cons (ds_set (i := 2) sc_Web_read.nd (de_if (dt_b (de_callB (dc_isiT "str" [] (by decide) (fun _ h => nomatch h)) (by rfl) T.z_isinstance boot_isinstance (da_cons (de_v 1) (da_cons (de_bT T.z_str boot_str) da_nil)))) (de_lcP rfl sc_Web_read.nd (di_seq (de_split (de_v 1) de_str)) (own := [("row", 5)]) (nt := (.n 5)) (blkOk_by (by kernel_rfl)) (by decide) (fun _ _ _ _ _ => (pg_name (i := 5) sc_Web_read.nd rfl (.inl rfl))) (fun _ _ _ _ _ => dts_nil) (fun _ _ _ _ _ => (de_callTy dc_tuple (by rfl) T.z_tuple boot_tuple (da_cons (de_split (de_v 5) de_str) da_nil)))) (de_lst (da_cons (de_tup (da_cons de_str da_nil)) da_nil))))
    (dss_cons (ds_par (i := 3) (j := 4) rfl sc_Web_read.nd (da_cons (de_slF (de_ix (u65 hr) (de_v 2) de_int) (dp_some de_int) dp_none) (da_cons (de_callTy dc_tupleF (by rfl) T.z_tuple boot_tuple (da_cons (de_sl (de_v 2) (dp_some de_int) dp_none) da_nil)) da_nil)))
    (dss_cons (ds_if (dw_pt (dw_or (dt_c (do_ne (u65 hr)) (de_ix (u65 hr) (de_ix (u65 hr) (de_v 2) de_int) de_int) de_str) (dw_or (dt_c (do_eqT (u65 hr)) (de_v 3) (de_tup da_nil)) (dw_or1 (dt_c do_notN (de_fn (FnG.up (ok_wrong_place T) (by decide)) hr hg T.m_wrong_place T.F_wrong_place.kp (b_wrong_place T.F_wrong_place) .nil lits_nil (da_cons (de_v 3) da_nil)) de_non))))) (dss_one ds_never) dss_nil)
    (dss_cons (ds_if (dt_c do_notN (de_fn (FnG.up (ok_wrong_tie T) (by decide)) hr hg T.m_wrong_tie T.F_wrong_tie.kp (b_wrong_tie T.F_wrong_tie) .nil lits_nil (da_cons (de_v 3) (da_cons (de_v 4) da_nil))) de_non) (dss_one ds_never) dss_nil)
    (dss_one (ds_ret (de_makeV (de_v 0) T.k_Web (ok_Web_init T) (hr.mono (by decide)) hg (b_Web_init T) .nil lits_nil (da_cons (de_v 3) (da_cons (de_v 4) da_nil)))))))))
theorem ok_Web_len (T : Txt P w K mg) : FnD P w K mg base 1 T.a_Web_len T.d_Web_len ["self"] (sp_Web_len T.a_Web) := by
  refine fnD_ok (w0 := w_Web_len T.a_Web) (fun_at T.F_Web_len) sc_Web_len (len_Web_len _) (fun cdv A outer s H E hr hg => ?_) (pure_Web_len T.a_Web)
  exact (dss_one (ds_ret (de_callB dc_len (by rfl) T.z_len boot_len (da_cons (de_fld T.c_Web T.n_row (de_v 0)) da_nil))))
theorem ok_Web_str (T : Txt P w K mg) : FnD P w K mg base 1 T.a_Web_str T.d_Web_str ["self"] (sp_Web_str T.a_Web) := by
  refine fnD_ok (w0 := w_Web_str T.a_Web) (fun_at T.F_Web_str) sc_Web_str (len_Web_str _) (fun cdv A outer s H E hr hg => ?_) (pure_Web_str T.a_Web)
  exact (dss_one (ds_ret (de_join de_str (de_lcP rfl sc_Web_str.nd (di_seq (de_tup (da_cons (de_tup (da_cons de_str (da_star (de_fld T.c_Web T.n_row (de_v 0)) da_nil))) (da_star (de_fld T.c_Web T.n_pairs (de_v 0)) da_nil)))) (own := [("words", 1)]) (nt := (.n 1)) (blkOk_by (by kernel_rfl)) (by decide) (fun _ _ _ _ _ => (pg_name (i := 1) sc_Web_str.nd rfl (.inl rfl))) (fun _ _ _ _ _ => dts_nil) (fun _ _ _ _ _ => (de_join de_str (de_v 1)))))))
theorem ok_is_integerA (T : Txt P w K mg) : FnD P w K mg base 1 T.a_is_integerA T.d_is_integerA ["value"] (sp_is_integerA T.a_Web) := by
  refine fnD_ok (w0 := w_is_integerA T.a_Web) (fun_at T.F_is_integerA) sc_is_integerA (len_is_integerA _) (fun cdv A outer s H E hr hg => ?_) (pure_is_integerA T.a_Web)
  exact (dss_one (ds_ret (de_and (de_callB (dc_isiT "int" [] (by decide) (fun _ h => nomatch h)) (by rfl) T.z_isinstance boot_isinstance (da_cons (de_v 0) (da_cons (de_bT T.z_int boot_int) da_nil))) (de_one (de_not (de_callB (dc_isiT "bool" [] (by decide) (fun _ h => nomatch h)) (by rfl) T.z_isinstance boot_isinstance (da_cons (de_v 0) (da_cons (de_bT T.z_bool boot_bool) da_nil))))))))
theorem ok_web_told (T : Txt P w K mg) : FnD P w K mg base 7 T.a_web_told T.d_web_told ["text"] (sp_web_told T.a_Web) := by
  refine fnD_ok (w0 := w_web_told T.a_Web) (fun_at T.F_web_told) sc_web_told (len_web_told _) (fun cdv A outer s H E hr hg => ?_) (pure_web_told T.a_Web)
  exact (dss_one (ds_try (ns := nsT) rfl rfl (fun W pn xe tk hp => (dssx_of (dss_one (ds_ret (de_cmeth (de_gC T.m_Web) T.r_Web T.e_read (FnG.up (ok_Web_read T) (by decide)) hr hg (b_Web_read T.F_Web_read) .nil lits_nil (da_cons (de_v 0) da_nil)))))) (HdsX.plain (l := [("InvalidText", T.a_InvalidText)]) (test1 ⟨rfl, by decide, .inl T.m_InvalidText⟩) (errT_h T.et (by kernel_rfl)) (all1 T.n_InvalidText) (fun a pn => (dss_one (ds_ret de_non))) HdsX.nil)))
theorem ok_are_places (T : Txt P w K mg) : FnD P w K mg base 3 T.a_are_places T.d_are_places ["web", "value"] (sp_are_places T.a_Web) := by
  refine fnD_ok (w0 := w_are_places T.a_Web) (fun_at T.F_are_places) sc_are_places (len_are_places _) (fun cdv A outer s H E hr hg => ?_) (pure_are_places T.a_Web)
  exact (dss_cons (ds_if (dw_pt (dw_or (dt_not (dt_b (de_callB (dc_isiT "tuple" [] (by decide) (fun _ h => nomatch h)) (by rfl) T.z_isinstance boot_isinstance (da_cons (de_v 1) (da_cons (de_bT T.z_tuple boot_tuple) da_nil))))) (dw_or1 (dt_not (dt_b (de_callB (dc_all rfl) (by rfl) T.z_all boot_all (da_cons (de_lcP rfl sc_are_places.nd (di_seq (de_v 1)) (own := [("place", 2)]) (nt := (.n 2)) (blkOk_by (by kernel_rfl)) (by decide) (fun _ _ _ _ _ => (pg_name (i := 2) sc_are_places.nd rfl (.inl rfl))) (fun _ _ _ _ _ => dts_nil) (fun _ _ _ _ _ => (de_and (de_callB (dc_isiT "str" [] (by decide) (fun _ h => nomatch h)) (by rfl) T.z_isinstance boot_isinstance (da_cons (de_v 2) (da_cons (de_bT T.z_str boot_str) da_nil))) (de_one (de_c (do_in (u65 hr)) (de_v 2) (de_prop T.c_Web T.p_places (g_places T) (hr.mono (by decide)) (b_places T) (de_v 0))))))) da_nil))))))) (dss_one (ds_ret de_bl)) dss_nil)
    (dss_one (ds_ret (de_callB (dc_all rfl) (by rfl) T.z_all boot_all (da_cons (de_lcP rfl sc_are_places.nd (di_enum T.z_enumerate (da_cons (de_v 1) da_nil)) (own := [("index", 3), ("place", 2)]) (nt := (.t [3, 2])) (blkOk_by (by kernel_rfl)) (by decide) (fun _ _ _ _ _ => (pg_tup rfl (pgs_cons (pg_name (i := 3) sc_are_places.nd rfl (.inl rfl)) (pgs_cons (pg_name (i := 2) sc_are_places.nd rfl (.inl rfl)) pgs_nil)))) (fun _ _ _ _ _ => dts_nil) (fun _ _ _ _ _ => (de_c (do_notIn (u65 hr)) (de_v 2) (de_sl (de_v 1) dp_none (dp_some (de_v 3)))))) da_nil)))))
theorem ok_shows_barred (T : Txt P w K mg) : FnD P w K mg base 4 T.a_shows_barred T.d_shows_barred ["web", "number", "caps"] (sp_shows_barred T.a_Web) := by
  refine fnD_ok (w0 := w_shows_barred T.a_Web) (fun_at T.F_shows_barred) sc_shows_barred (len_shows_barred _) (fun cdv A outer s H E hr hg => ?_) (pure_shows_barred T.a_Web)
  exact (dss_cons (ds_if (dw_pt (dw_or (dt_not (dt_b (de_callB (dc_isiT "tuple" [] (by decide) (fun _ h => nomatch h)) (by rfl) T.z_isinstance boot_isinstance (da_cons (de_v 2) (da_cons (de_bT T.z_tuple boot_tuple) da_nil))))) (dw_or (dt_c (do_ne (u65 hr)) (de_callB dc_len (by rfl) T.z_len boot_len (da_cons (de_v 2) da_nil)) de_int) (dw_or1 (dt_not (dt_b (de_callB (dc_all rfl) (by rfl) T.z_all boot_all (da_cons (de_lcP rfl sc_shows_barred.nd (di_seq (de_v 2)) (own := [("part", 5)]) (nt := (.n 5)) (blkOk_by (by kernel_rfl)) (by decide) (fun _ _ _ _ _ => (pg_name (i := 5) sc_shows_barred.nd rfl (.inl rfl))) (fun _ _ _ _ _ => dts_nil) (fun _ _ _ _ _ => (de_fn (FnG.up (ok_are_places T) (by decide)) hr hg T.m_are_places T.F_are_places.kp (b_are_places T.F_are_places) .nil lits_nil (da_cons (de_v 0) (da_cons (de_v 5) da_nil))))) da_nil)))))))) (dss_one (ds_ret de_bl)) dss_nil)
    (dss_cons (ds_asg (de_v 2) (dg_tupA rfl (dgs_cons (dg_v (i := 3) sc_shows_barred.nd) (dgs_cons (dg_v (i := 4) sc_shows_barred.nd) dgs_nil))))
    (dss_cons (ds_if (dt_not (dt_b (de_callB (dc_all rfl) (by rfl) T.z_all boot_all (da_cons (de_lcP rfl sc_shows_barred.nd (di_seq (de_prop T.c_Web T.p_ties (g_ties T) (hr.mono (by decide)) (b_ties T) (de_v 0))) (own := [("first", 6), ("second", 7)]) (nt := (.t [6, 7])) (blkOk_by (by kernel_rfl)) (by decide) (fun _ _ _ _ _ => (pg_tup rfl (pgs_cons (pg_name (i := 6) sc_shows_barred.nd rfl (.inl rfl)) (pgs_cons (pg_name (i := 7) sc_shows_barred.nd rfl (.inl rfl)) pgs_nil)))) (fun _ _ _ _ _ => dts_nil) (fun _ _ _ _ _ => (de_or (de_c (do_in (u65 hr)) (de_v 6) (de_v 3)) (de_one (de_c (do_in (u65 hr)) (de_v 7) (de_v 4)))))) da_nil)))) (dss_one (ds_ret de_bl)) dss_nil)
    (dss_one (ds_ret (de_c do_le (de_o do_add (de_callB dc_len (by rfl) T.z_len boot_len (da_cons (de_v 3) da_nil)) (de_callB dc_len (by rfl) T.z_len boot_len (da_cons (de_v 4) da_nil))) (de_o do_sub (de_callB (dc_lenO T.h___len__.at_ T.h___len__.fn (ok_Web_len T) (hr.mono (by decide)) hg (b_Web_len T.F_Web_len)) (by rfl) T.z_len boot_len (da_cons (de_v 0) da_nil)) (de_v 1))))))))
theorem ok_nv_parted (T : Txt P w K mg) : FnD P w K mg base 1 T.a_nv_parted T.d_nv_parted ["web", "number", "parting"] (sp_nv_parted T.a_Web) := fnD_false _
theorem ok_nv_long (T : Txt P w K mg) : FnD P w K mg base 1 T.a_nv_long T.d_nv_long ["web", "number", "road"] (sp_nv_long T.a_Web) := fnD_false _
theorem ok_is_colouring_of (T : Txt P w K mg) : FnD P w K mg base 3 T.a_is_colouring_of T.d_is_colouring_of ["web", "value"] (sp_is_colouring_of T.a_Web) := by
  refine fnD_ok (w0 := w_is_colouring_of T.a_Web) (fun_at T.F_is_colouring_of) sc_is_colouring_of (len_is_colouring_of _) (fun cdv A outer s H E hr hg => ?_) (pure_is_colouring_of T.a_Web)
  exact (dss_cons (ds_if (dw_pt (dw_or (dt_not (dt_b (de_callB (dc_isiT "tuple" [] (by decide) (fun _ h => nomatch h)) (by rfl) T.z_isinstance boot_isinstance (da_cons (de_v 1) (da_cons (de_bT T.z_tuple boot_tuple) da_nil))))) (dw_or1 (dt_c (do_ne (u65 hr)) (de_callB dc_len (by rfl) T.z_len boot_len (da_cons (de_v 1) da_nil)) (de_callB (dc_lenO T.h___len__.at_ T.h___len__.fn (ok_Web_len T) (hr.mono (by decide)) hg (b_Web_len T.F_Web_len)) (by rfl) T.z_len boot_len (da_cons (de_v 0) da_nil)))))) (dss_one (ds_ret de_bl)) dss_nil)
    (dss_cons (ds_if (dt_not (dt_b (de_callB (dc_all rfl) (by rfl) T.z_all boot_all (da_cons (de_lcP rfl sc_is_colouring_of.nd (di_seq (de_v 1)) (own := [("colour", 3)]) (nt := (.n 3)) (blkOk_by (by kernel_rfl)) (by decide) (fun _ _ _ _ _ => (pg_name (i := 3) sc_is_colouring_of.nd rfl (.inl rfl))) (fun _ _ _ _ _ => dts_nil) (fun _ _ _ _ _ => (de_and (de_fn (FnG.up (ok_is_integerA T) (by decide)) hr hg T.m_is_integerA T.F_is_integerA.kp (b_is_integerA T.F_is_integerA) .nil lits_nil (da_cons (de_v 3) da_nil)) (de_one (de_c do_gt (de_v 3) de_int))))) da_nil)))) (dss_one (ds_ret de_bl)) dss_nil)
    (dss_cons (ds_set (i := 2) sc_is_colouring_of.nd (de_dcP (t := false) (u65 hr) rfl sc_is_colouring_of.nd (di_zip T.z_zip (da_cons (de_prop T.c_Web T.p_places (g_places T) (hr.mono (by decide)) (b_places T) (de_v 0)) (da_cons (de_v 1) da_nil))) (own := [("place", 4), ("colour", 3)]) (nt := (.t [4, 3])) (blkOk_by (by kernel_rfl)) (by decide) (fun _ _ _ _ _ => (pg_tup rfl (pgs_cons (pg_name (i := 4) sc_is_colouring_of.nd rfl (.inl rfl)) (pgs_cons (pg_name (i := 3) sc_is_colouring_of.nd rfl (.inl rfl)) pgs_nil)))) (fun _ _ _ _ _ => dts_nil) (fun _ _ _ _ _ => (de_v 4)) (fun _ _ _ _ _ => (de_v 3))))
    (dss_one (ds_ret (de_callB (dc_all rfl) (by rfl) T.z_all boot_all (da_cons (de_lcP rfl sc_is_colouring_of.nd (di_seq (de_prop T.c_Web T.p_ties (g_ties T) (hr.mono (by decide)) (b_ties T) (de_v 0))) (own := [("first", 5), ("second", 6)]) (nt := (.t [5, 6])) (blkOk_by (by kernel_rfl)) (by decide) (fun _ _ _ _ _ => (pg_tup rfl (pgs_cons (pg_name (i := 5) sc_is_colouring_of.nd rfl (.inl rfl)) (pgs_cons (pg_name (i := 6) sc_is_colouring_of.nd rfl (.inl rfl)) pgs_nil)))) (fun _ _ _ _ _ => dts_nil) (fun _ _ _ _ _ => (de_c (do_ne (u65 hr)) (de_ix (u65 hr) (de_v 2) (de_v 5)) (de_ix (u65 hr) (de_v 2) (de_v 6))))) da_nil)))))))
theorem ok_shows_coloured (T : Txt P w K mg) : FnD P w K mg base 4 T.a_shows_coloured T.d_shows_coloured ["web", "number", "colours"] (sp_shows_coloured T.a_Web) := by
  refine fnD_ok (w0 := w_shows_coloured T.a_Web) (fun_at T.F_shows_coloured) sc_shows_coloured (len_shows_coloured _) (fun cdv A outer s H E hr hg => ?_) (pure_shows_coloured T.a_Web)
  exact (dss_one (ds_ret (de_and (de_fn (FnG.up (ok_is_colouring_of T) (by decide)) hr hg T.m_is_colouring_of T.F_is_colouring_of.kp (b_is_colouring_of T.F_is_colouring_of) .nil lits_nil (da_cons (de_v 0) (da_cons (de_v 2) da_nil))) (de_one (de_c do_le (de_callB (dc_maxT rfl) (by rfl) T.z_max boot_max (da_cons (de_v 2) da_nil)) (de_v 1))))))
theorem ok_is_shut (T : Txt P w K mg) : FnD P w K mg base 4 T.a_is_shut T.d_is_shut ["web", "value"] (sp_is_shut T.a_Web) := by
  refine fnD_ok (w0 := w_is_shut T.a_Web) (fun_at T.F_is_shut) sc_is_shut (len_is_shut _) (fun cdv A outer s H E hr hg => ?_) (pure_is_shut T.a_Web)
  exact (dss_cons (ds_if (dw_pt (dw_or (dt_not (dt_b (de_callB (dc_isiT "tuple" [] (by decide) (fun _ h => nomatch h)) (by rfl) T.z_isinstance boot_isinstance (da_cons (de_v 1) (da_cons (de_bT T.z_tuple boot_tuple) da_nil))))) (dw_or (dt_c (do_ne (u65 hr)) (de_callB dc_len (by rfl) T.z_len boot_len (da_cons (de_v 1) da_nil)) de_int) (dw_or1 (dt_not (dt_b (de_fn (FnG.up (ok_are_places T) (by decide)) hr hg T.m_are_places T.F_are_places.kp (b_are_places T.F_are_places) .nil lits_nil (da_cons (de_v 0) (da_cons (de_ix (u65 hr) (de_v 1) de_int) da_nil))))))))) (dss_one (ds_ret de_bl)) dss_nil)
    (dss_cons (ds_if (dw_pt (dw_or (dt_not (dt_b (de_callB (dc_isiT "str" [] (by decide) (fun _ h => nomatch h)) (by rfl) T.z_isinstance boot_isinstance (da_cons (de_ix (u65 hr) (de_v 1) de_int) (da_cons (de_bT T.z_str boot_str) da_nil))))) (dw_or1 (dt_c (do_notIn (u65 hr)) (de_ix (u65 hr) (de_v 1) de_int) (de_ix (u65 hr) (de_v 1) de_int))))) (dss_one (ds_ret de_bl)) dss_nil)
    (dss_one (ds_ret (de_callB (dc_all rfl) (by rfl) T.z_all boot_all (da_cons (de_lcP rfl sc_is_shut.nd (di_seq (de_prop T.c_Web T.p_ties (g_ties T) (hr.mono (by decide)) (b_ties T) (de_v 0))) (own := [("first", 2), ("second", 3)]) (nt := (.t [2, 3])) (blkOk_by (by kernel_rfl)) (by decide) (fun _ _ _ _ _ => (pg_tup rfl (pgs_cons (pg_name (i := 2) sc_is_shut.nd rfl (.inl rfl)) (pgs_cons (pg_name (i := 3) sc_is_shut.nd rfl (.inl rfl)) pgs_nil)))) (fun _ _ _ _ _ => dts_nil) (fun _ _ _ _ _ => (de_or (de_c (do_notIn (u65 hr)) (de_v 2) (de_ix (u65 hr) (de_v 1) de_int)) (de_one (de_c (do_in (u65 hr)) (de_v 3) (de_ix (u65 hr) (de_v 1) de_int)))))) da_nil))))))
theorem ok_shows_apart (T : Txt P w K mg) : FnD P w K mg base 5 T.a_shows_apart T.d_shows_apart ["web", "number", "pairs"] (sp_shows_apart T.a_Web) := by
  refine fnD_ok (w0 := w_shows_apart T.a_Web) (fun_at T.F_shows_apart) sc_shows_apart (len_shows_apart _) (fun cdv A outer s H E hr hg => ?_) (pure_shows_apart T.a_Web)
  exact (dss_cons (ds_if (dw_pt (dw_or (dt_not (dt_b (de_callB (dc_isiT "tuple" [] (by decide) (fun _ h => nomatch h)) (by rfl) T.z_isinstance boot_isinstance (da_cons (de_v 2) (da_cons (de_bT T.z_tuple boot_tuple) da_nil))))) (dw_or (dt_c (do_ne (u65 hr)) (de_callB dc_len (by rfl) T.z_len boot_len (da_cons (de_v 2) da_nil)) (de_v 1)) (dw_or1 (dt_not (dt_b (de_callB (dc_all rfl) (by rfl) T.z_all boot_all (da_cons (de_lcP rfl sc_shows_apart.nd (di_seq (de_v 2)) (own := [("pair", 4)]) (nt := (.n 4)) (blkOk_by (by kernel_rfl)) (by decide) (fun _ _ _ _ _ => (pg_name (i := 4) sc_shows_apart.nd rfl (.inl rfl))) (fun _ _ _ _ _ => dts_nil) (fun _ _ _ _ _ => (de_fn (FnG.up (ok_is_shut T) (by decide)) hr hg T.m_is_shut T.F_is_shut.kp (b_is_shut T.F_is_shut) .nil lits_nil (da_cons (de_v 0) (da_cons (de_v 4) da_nil))))) da_nil)))))))) (dss_one (ds_ret de_bl)) dss_nil)
    (dss_cons (ds_set (i := 3) sc_shows_apart.nd (de_lcP rfl sc_shows_apart.nd (di_seq (de_v 2)) (own := [("pair", 4)]) (nt := (.n 4)) (blkOk_by (by kernel_rfl)) (by decide) (fun _ _ _ _ _ => (pg_name (i := 4) sc_shows_apart.nd rfl (.inl rfl))) (fun _ _ _ _ _ => dts_nil) (fun _ _ _ _ _ => (de_ix (u65 hr) (de_v 4) de_int))))
    (dss_cons (ds_if (dt_not (dt_b (de_fn (FnG.up (ok_are_places T) (by decide)) hr hg T.m_are_places T.F_are_places.kp (b_are_places T.F_are_places) .nil lits_nil (da_cons (de_v 0) (da_cons (de_callTy dc_tuple (by rfl) T.z_tuple boot_tuple (da_cons (de_v 3) da_nil)) da_nil))))) (dss_one (ds_ret de_bl)) dss_nil)
    (dss_one (ds_ret (de_callB (dc_all rfl) (by rfl) T.z_all boot_all (da_cons (de_lcP rfl sc_shows_apart.nd (di_seq (de_v 2)) (own := [("pair", 4)]) (nt := (.n 4)) (blkOk_by (by kernel_rfl)) (by decide) (fun _ _ _ _ _ => (pg_name (i := 4) sc_shows_apart.nd rfl (.inr rfl))) (fun _ _ _ _ _ => dts_nil) (fun _ _ _ _ _ => (de_callB (dc_all rfl) (by rfl) T.z_all boot_all (da_cons (de_lcP rfl sc_shows_apart.nd (di_seq (de_v 3)) (own := [("head", 5)]) (nt := (.n 5)) (blkOk_by (by kernel_rfl)) (by decide) (fun _ _ _ _ _ => (pg_name (i := 5) sc_shows_apart.nd rfl (.inl rfl))) (fun _ _ _ _ _ => dts_nil) (fun _ _ _ _ _ => (de_or (de_c (do_eq (u65 hr)) (de_v 5) (de_ix (u65 hr) (de_v 4) de_int)) (de_one (de_c (do_notIn (u65 hr)) (de_v 5) (de_ix (u65 hr) (de_v 4) de_int)))))) da_nil)))) da_nil)))))))
theorem ok_acceptsG (T : Txt P w K mg) : FnD P w K mg base 8 T.a_acceptsG T.d_acceptsG ["claim", "certificate"] (sp_acceptsG T.a_Web) := by
  refine fnD_ok (w0 := w_acceptsG T.a_Web) (fun_at T.F_acceptsG) sc_acceptsG (len_acceptsG _) (fun cdv A outer s H E hr hg => ?_) (pure_acceptsG T.a_Web)
  exact (dss_cons (ds_if (dw_pt (dw_or (dt_not (dt_b (de_callB (dc_isiT "tuple" [] (by decide) (fun _ h => nomatch h)) (by rfl) T.z_isinstance boot_isinstance (da_cons (de_v 0) (da_cons (de_bT T.z_tuple boot_tuple) da_nil))))) (dw_or (dt_c (do_eq (u65 hr)) (de_callB dc_len (by rfl) T.z_len boot_len (da_cons (de_v 0) da_nil)) de_int) (dw_or1 (dt_not (dt_b (de_callB (dc_isiT "str" [] (by decide) (fun _ h => nomatch h)) (by rfl) T.z_isinstance boot_isinstance (da_cons (de_ix (u65 hr) (de_v 0) de_int) (da_cons (de_bT T.z_str boot_str) da_nil))))))))) (dss_one (ds_ret de_bl)) dss_nil)
    (dss_cons (ds_if (dt_c (do_ne (u65 hr)) (de_gget T.m_SIZES T.gt_SIZES (de_ix (u65 hr) (de_v 0) de_int) ⟨rfl, rfl, rfl, rfl⟩) (de_callB dc_len (by rfl) T.z_len boot_len (da_cons (de_v 0) da_nil))) (dss_one (ds_ret de_bl)) dss_nil)
    (dss_cons (ds_set (i := 2) sc_acceptsG.nd (de_fn (FnG.up (ok_web_told T) (by decide)) hr hg T.m_web_told T.F_web_told.kp (b_web_told T.F_web_told) .nil lits_nil (da_cons (de_ix (u65 hr) (de_v 0) de_int) da_nil)))
    (dss_cons (ds_if (dw_pt (dw_or (dt_c do_isN (de_v 2) de_non) (dw_or1 (dt_not (dt_b (de_fn (FnG.up (ok_is_integerA T) (by decide)) hr hg T.m_is_integerA T.F_is_integerA.kp (b_is_integerA T.F_is_integerA) .nil lits_nil (da_cons (de_ix (u65 hr) (de_v 0) de_int) da_nil))))))) (dss_one (ds_ret de_bl)) dss_nil)
    (dss_cons (ds_if (dt_c (do_eq (u65 hr)) (de_ix (u65 hr) (de_v 0) de_int) de_str) (dss_one (ds_ret (de_fn (FnG.up (ok_nv_parted T) (by decide)) hr hg T.m_nv_parted T.F_nv_parted.kp (b_nv_parted T.F_nv_parted) .nil lits_nil (da_cons (de_v 2) (da_cons (de_ix (u65 hr) (de_v 0) de_int) (da_cons (de_v 1) da_nil)))))) dss_nil)
    (dss_cons (ds_if (dt_c (do_eq (u65 hr)) (de_ix (u65 hr) (de_v 0) de_int) de_str) (dss_one (ds_ret (de_fn (FnG.up (ok_shows_barred T) (by decide)) hr hg T.m_shows_barred T.F_shows_barred.kp (b_shows_barred T.F_shows_barred) .nil lits_nil (da_cons (de_v 2) (da_cons (de_ix (u65 hr) (de_v 0) de_int) (da_cons (de_v 1) da_nil)))))) dss_nil)
    (dss_cons (ds_if (dt_c (do_eq (u65 hr)) (de_ix (u65 hr) (de_v 0) de_int) de_str) (dss_one (ds_ret (de_fn (FnG.up (ok_nv_long T) (by decide)) hr hg T.m_nv_long T.F_nv_long.kp (b_nv_long T.F_nv_long) .nil lits_nil (da_cons (de_v 2) (da_cons (de_ix (u65 hr) (de_v 0) de_int) (da_cons (de_v 1) da_nil)))))) dss_nil)
    (dss_cons (ds_if (dt_c (do_eq (u65 hr)) (de_ix (u65 hr) (de_v 0) de_int) de_str) (dss_one (ds_ret (de_fn (FnG.up (ok_shows_coloured T) (by decide)) hr hg T.m_shows_coloured T.F_shows_coloured.kp (b_shows_coloured T.F_shows_coloured) .nil lits_nil (da_cons (de_v 2) (da_cons (de_ix (u65 hr) (de_v 0) de_int) (da_cons (de_v 1) da_nil)))))) dss_nil)
    (dss_one (ds_ret (de_fn (FnG.up (ok_shows_apart T) (by decide)) hr hg T.m_shows_apart T.F_shows_apart.kp (b_shows_apart T.F_shows_apart) .nil lits_nil (da_cons (de_v 2) (da_cons (de_ix (u65 hr) (de_v 0) de_int) (da_cons (de_v 1) da_nil))))))))))))))
theorem ok_cel_cup (T : Txt P w K mg) : FnD P w K mg base 1 T.a_cel_cup T.d_cel_cup ["_law_cells", "_law_turn"] (sp_cel_cup T.a_Web) := by
  refine fnD_ok (w0 := w_cel_cup T.a_Web) (fun_at T.F_cel_cup) sc_cel_cup (len_cel_cup _) (fun cdv A outer s H E hr hg => ?_) (pure_cel_cup T.a_Web)
  exact (dss_cons (ds_set (i := 2) sc_cel_cup.nd (de_if (dt_c do_lt (de_v 1) (de_callB dc_len (by rfl) T.z_len boot_len (da_cons (de_v 0) da_nil))) (de_ix (u65 hr) (de_v 0) (de_v 1)) (de_o do_add (de_v 1) de_int)))
    (dss_cons (ds_set (i := 3) sc_cel_cup.nd (de_o do_add de_int (de_o do_mul de_int (de_v 1))))
    (dss_cons (ds_for PassesOwn.never rfl (di_seq (de_o do_add (de_sl (de_v 0) dp_none (dp_some de_int)) (de_lst (da_cons (de_v 2) da_nil)))) (dg_v (i := 4) sc_cel_cup.nd) (dss_one (ds_set (i := 3) sc_cel_cup.nd (de_o do_mod (de_callTy dc_int (by rfl) T.z_int boot_int (da_cons (de_o do_add (de_o do_mul (de_v 3) de_int) (de_v 4)) da_nil)) de_int))))
    (dss_one (ds_ret (de_new (da_cons (de_if (dw_pt (dw_or (dt_c do_lt (de_v 2) de_int) (dw_or1 (dt_c do_ge (de_v 2) (de_o do_pow de_int de_int))))) (de_callB dc_abs (by rfl) T.z_abs boot_abs (da_cons (de_v 2) da_nil)) de_int) (da_cons (de_v 3) (da_cons de_int da_nil)))))))))
theorem ok_cel_sip (T : Txt P w K mg) : FnD P w K mg base 1 T.a_cel_sip T.d_cel_sip ["_law_cup_here", "_law_top"] (sp_cel_sip T.a_Web) := by
  refine fnD_ok (w0 := w_cel_sip T.a_Web) (fun_at T.F_cel_sip) sc_cel_sip (len_cel_sip _) (fun cdv A outer s H E hr hg => ?_) (pure_cel_sip T.a_Web)
  exact (dss_cons (ds_sub (u65 hr) (de_v 0) de_int (de_o do_add (de_ix (u65 hr) (de_v 0) de_int) de_int))
    (dss_cons (ds_if (dt_c do_gt (de_ix (u65 hr) (de_v 0) de_int) de_int) (dss_cons (ds_asg (de_callB dc_divmod (by rfl) T.z_divmod boot_divmod (da_cons (de_ix (u65 hr) (de_v 0) de_int) (da_cons (de_v 1) da_nil))) (dg_tup rfl (dgs_cons (dg_sub (pset_sub (u65 hr)) (de_v 0) de_int) (dgs_cons (dg_v (i := 2) sc_cel_sip.nd) dgs_nil))))
    (dss_one (ds_ret (de_v 2)))) dss_nil)
    (dss_cons (ds_sub (u65 hr) (de_v 0) de_int (de_o do_mod (de_callTy dc_int (by rfl) T.z_int boot_int (da_cons (de_o do_add (de_o do_mul (de_ix (u65 hr) (de_v 0) de_int) de_int) (de_o do_mul de_int (de_ix (u65 hr) (de_v 0) de_int))) da_nil)) de_int))
    (dss_one (ds_ret (de_o do_mod (de_callTy dc_int (by rfl) T.z_int boot_int (da_cons (de_o do_div (de_ix (u65 hr) (de_v 0) de_int) de_int) da_nil)) (de_v 1)))))))
theorem ok_cel_labels (T : Txt P w K mg) : FnD P w K mg base 2 T.a_cel_labels T.d_cel_labels ["_law_cup_here", "_law_many"] (sp_cel_labels T.a_Web) := by
  refine fnD_ok (w0 := w_cel_labels T.a_Web) (fun_at T.F_cel_labels) sc_cel_labels (len_cel_labels _) (fun cdv A outer s H E hr hg => ?_) (pure_cel_labels T.a_Web)
  exact (dss_cons (ds_set (i := 2) sc_cel_labels.nd de_str)
    (dss_cons (ds_if (dw_pt (dw_and (dt_c do_lt (de_v 1) de_int) (dw_and1 (dt_c (do_eq (u65 hr)) (de_fn (FnG.up (ok_cel_sip T) (by decide)) hr hg T.m_cel_sip T.F_cel_sip.kp (b_cel_sip T.F_cel_sip) .nil lits_nil (da_cons (de_v 0) (da_cons de_int da_nil))) de_int)))) (dss_one (ds_ret (de_sl (de_lst (da_cons de_str (da_cons de_str (da_cons de_str (da_cons de_str (da_cons de_str (da_cons de_str (da_cons de_str (da_cons de_str da_nil))))))))) dp_none (dp_some (de_v 1))))) dss_nil)
    (dss_cons (ds_par (i := 3) (j := 4) rfl sc_cel_labels.nd (da_cons (de_ix (u65 hr) (de_lst (da_cons de_str (da_cons de_str (da_cons de_str da_nil)))) (de_fn (FnG.up (ok_cel_sip T) (by decide)) hr hg T.m_cel_sip T.F_cel_sip.kp (b_cel_sip T.F_cel_sip) .nil lits_nil (da_cons (de_v 0) (da_cons de_int da_nil)))) (da_cons (de_new da_nil) da_nil)))
    (dss_cons (ds_for PassesOwn.never rfl (di_rng1 T.z_range (da_cons (de_v 1) da_nil)) (dg_v (i := 5) sc_cel_labels.nd) (dss_one (ds_expr (de_bm dm_append F.plainAttrs_list F.slot_list_append F.type_list_append (de_v 4) (da_cons (de_o do_add (de_v 3) (de_o do_mul (de_ix (u65 hr) (de_v 2) (de_o do_mod (de_callTy dc_int (by rfl) T.z_int boot_int (da_cons (de_v 5) da_nil)) de_int)) (de_o do_add de_int (de_o do_div (de_v 5) de_int)))) da_nil)))))
    (dss_one (ds_ret (de_if (dt_c (do_eq (u65 hr)) (de_fn (FnG.up (ok_cel_sip T) (by decide)) hr hg T.m_cel_sip T.F_cel_sip.kp (b_cel_sip T.F_cel_sip) .nil lits_nil (da_cons (de_v 0) (da_cons de_int da_nil))) de_int) (de_revL (de_v 4)) (de_v 4))))))))
theorem ok_cel_links (T : Txt P w K mg) : FnD P w K mg base 2 T.a_cel_links T.d_cel_links ["_law_cup_here", "_law_many", "_law_way"] (sp_cel_links T.a_Web) := by
  refine fnD_ok (w0 := w_cel_links T.a_Web) (fun_at T.F_cel_links) sc_cel_links (len_cel_links _) (fun cdv A outer s H E hr hg => ?_) (pure_cel_links T.a_Web)
  exact (dss_cons (ds_set (i := 3) sc_cel_links.nd (de_new da_nil))
    (dss_cons (ds_for PassesOwn.never rfl (di_rng1 T.z_range (da_cons (de_v 1) da_nil)) (dg_v (i := 4) sc_cel_links.nd) (dss_one (ds_for PassesOwn.never rfl (di_rng1 T.z_range (da_cons (de_v 1) da_nil)) (dg_v (i := 5) sc_cel_links.nd) (dss_one (ds_if (dw_pt (dw_and (dt_c (do_ne (u65 hr)) (de_v 4) (de_v 5)) (dw_and (dw_pt (dw_or (dt_c (do_ne (u65 hr)) (de_v 2) de_int) (dw_or1 (dt_c do_lt (de_v 4) (de_v 5))))) (dw_and1 (dw_pt (dw_or (dt_c (do_ne (u65 hr)) (de_v 2) de_int) (dw_or1 (dt_c do_lt (de_v 4) (de_v 5))))))))) (dss_one (ds_if (dt_c (do_eq (u65 hr)) (de_v 2) de_int) (dss_one (ds_expr (de_bm dm_append F.plainAttrs_list F.slot_list_append F.type_list_append (de_v 3) (da_cons (de_if (dt_c (do_eq (u65 hr)) (de_fn (FnG.up (ok_cel_sip T) (by decide)) hr hg T.m_cel_sip T.F_cel_sip.kp (b_cel_sip T.F_cel_sip) .nil lits_nil (da_cons (de_v 0) (da_cons de_int da_nil))) de_int) (de_tup (da_cons (de_v 4) (da_cons (de_v 5) da_nil))) (de_tup (da_cons (de_v 5) (da_cons (de_v 4) da_nil)))) da_nil)))) (dss_one (ds_if (dt_c (do_eq (u65 hr)) (de_fn (FnG.up (ok_cel_sip T) (by decide)) hr hg T.m_cel_sip T.F_cel_sip.kp (b_cel_sip T.F_cel_sip) .nil lits_nil (da_cons (de_v 0) (da_cons (de_ix (u65 hr) (de_lst (da_cons de_int (da_cons de_int (da_cons de_int (da_cons de_int (da_cons de_int da_nil)))))) (de_v 2)) da_nil))) de_int) (dss_one (ds_expr (de_bm dm_append F.plainAttrs_list F.slot_list_append F.type_list_append (de_v 3) (da_cons (de_tup (da_cons (de_v 4) (da_cons (de_v 5) da_nil))) da_nil)))) dss_nil)))) dss_nil)))))
    (dss_cons (ds_par (i := 6) (j := 7) rfl sc_cel_links.nd (da_cons (de_callTy dc_listO (by rfl) T.z_list boot_list (da_cons (de_v 3) da_nil)) (da_cons (de_new da_nil) da_nil)))
    (dss_cons (ds_for PassesOwn.never rfl (di_rng1 T.z_range (da_cons (de_callB dc_len (by rfl) T.z_len boot_len (da_cons (de_v 3) da_nil)) da_nil)) (dg_v (i := 8) sc_cel_links.nd) (dss_one (ds_expr (de_bm dm_append F.plainAttrs_list F.slot_list_append F.type_list_append (de_v 7) (da_cons (de_bm dm_popAt F.plainAttrs_list F.slot_list_pop F.type_list_pop (de_v 6) (da_cons (de_fn (FnG.up (ok_cel_sip T) (by decide)) hr hg T.m_cel_sip T.F_cel_sip.kp (b_cel_sip T.F_cel_sip) .nil lits_nil (da_cons (de_v 0) (da_cons (de_callB dc_len (by rfl) T.z_len boot_len (da_cons (de_v 6) da_nil)) da_nil))) da_nil)) da_nil)))))
    (dss_one (ds_ret (de_sl (de_v 7) dp_none (dp_some de_int))))))))
theorem ok_cel_order (T : Txt P w K mg) : FnD P w K mg base 2 T.a_cel_order T.d_cel_order ["_law_cup_here", "_law_many"] (sp_cel_order T.a_Web) := by
  refine fnD_ok (w0 := w_cel_order T.a_Web) (fun_at T.F_cel_order) sc_cel_order (len_cel_order _) (fun cdv A outer s H E hr hg => ?_) (pure_cel_order T.a_Web)
  exact (dss_cons (ds_set (i := 2) sc_cel_order.nd (de_new da_nil))
    (dss_cons (ds_for PassesOwn.never rfl (di_rng1 T.z_range (da_cons (de_v 1) da_nil)) (dg_v (i := 3) sc_cel_order.nd) (dss_one (ds_expr (de_bm dm_insert F.plainAttrs_list F.slot_list_insert F.type_list_insert (de_v 2) (da_cons (de_fn (FnG.up (ok_cel_sip T) (by decide)) hr hg T.m_cel_sip T.F_cel_sip.kp (b_cel_sip T.F_cel_sip) .nil lits_nil (da_cons (de_v 0) (da_cons (de_o do_add (de_v 3) de_int) da_nil))) (da_cons (de_v 3) da_nil))))))
    (dss_one (ds_ret (de_v 2)))))
theorem ok_cel_web (T : Txt P w K mg) : FnD P w K mg base 6 T.a_cel_web T.d_cel_web ["_law_labels_here", "_law_links_here"] (sp_cel_web T.a_Web) := by
  refine fnD_ok (w0 := w_cel_web T.a_Web) (fun_at T.F_cel_web) sc_cel_web (len_cel_web _) (fun cdv A outer s H E hr hg => ?_) (pure_cel_web T.a_Web)
  exact (dss_one (ds_ret (de_makeF T.k_Web (ok_Web_init T) (hr.mono (by decide)) hg T.m_Web (b_Web_init T) .nil lits_nil (da_cons (de_callTy dc_tupleF (by rfl) T.z_tuple boot_tuple (da_cons (de_v 0) da_nil)) (da_cons (de_callTy dc_tupleF (by rfl) T.z_tuple boot_tuple (da_cons (de_lcP rfl sc_cel_web.nd (di_seq (de_v 1)) (own := [("_law_a", 2), ("_law_b", 3)]) (nt := (.t [2, 3])) (blkOk_by (by kernel_rfl)) (by decide) (fun _ _ _ _ _ => (pg_tup rfl (pgs_cons (pg_name (i := 2) sc_cel_web.nd rfl (.inl rfl)) (pgs_cons (pg_name (i := 3) sc_cel_web.nd rfl (.inl rfl)) pgs_nil)))) (fun _ _ _ _ _ => dts_nil) (fun _ _ _ _ _ => (de_tup (da_cons (de_ix (u65 hr) (de_v 0) (de_v 2)) (da_cons (de_ix (u65 hr) (de_v 0) (de_v 3)) da_nil))))) da_nil)) da_nil)))))
theorem ok_cel_scene (T : Txt P w K mg) : FnD P w K mg base 7 T.a_cel_scene T.d_cel_scene ["_law_cup_here", "_law_most", "_law_ways"] (sp_cel_scene T.a_Web) := by
  refine fnD_ok (w0 := w_cel_scene T.a_Web) (fun_at T.F_cel_scene) sc_cel_scene (len_cel_scene _) (fun cdv A outer s H E hr hg => ?_) (pure_cel_scene T.a_Web)
  exact (dss_cons (ds_set (i := 3) sc_cel_scene.nd (de_o do_add de_int (de_fn (FnG.up (ok_cel_sip T) (by decide)) hr hg T.m_cel_sip T.F_cel_sip.kp (b_cel_sip T.F_cel_sip) .nil lits_nil (da_cons (de_v 0) (da_cons (de_v 1) da_nil)))))
    (dss_cons (ds_set (i := 4) sc_cel_scene.nd (de_fn (FnG.up (ok_cel_order T) (by decide)) hr hg T.m_cel_order T.F_cel_order.kp (b_cel_order T.F_cel_order) .nil lits_nil (da_cons (de_v 0) (da_cons (de_v 3) da_nil))))
    (dss_cons (ds_setLcP (i := 5) rfl sc_cel_scene.nd (di_seq (de_fn (FnG.up (ok_cel_links T) (by decide)) hr hg T.m_cel_links T.F_cel_links.kp (b_cel_links T.F_cel_links) .nil lits_nil (da_cons (de_v 0) (da_cons (de_v 3) (da_cons (de_ix (u65 hr) (de_v 2) (de_fn (FnG.up (ok_cel_sip T) (by decide)) hr hg T.m_cel_sip T.F_cel_sip.kp (b_cel_sip T.F_cel_sip) .nil lits_nil (da_cons (de_v 0) (da_cons (de_callB dc_len (by rfl) T.z_len boot_len (da_cons (de_v 2) da_nil)) da_nil)))) da_nil))))) (own := [("_law_a", 7), ("_law_b", 8)]) (nt := (.t [7, 8])) (blkOk_by (by kernel_rfl)) (by decide) (fun _ _ _ _ _ => (pg_tup rfl (pgs_cons (pg_name (i := 7) sc_cel_scene.nd rfl (.inl rfl)) (pgs_cons (pg_name (i := 8) sc_cel_scene.nd rfl (.inl rfl)) pgs_nil)))) (fun _ _ _ _ _ => dts_nil) (fun _ _ _ _ _ => (de_tup (da_cons (de_ix (u65 hr) (de_v 4) (de_v 7)) (da_cons (de_ix (u65 hr) (de_v 4) (de_v 8)) da_nil)))))
    (dss_cons (ds_set (i := 6) sc_cel_scene.nd (de_fn (FnG.up (ok_cel_labels T) (by decide)) hr hg T.m_cel_labels T.F_cel_labels.kp (b_cel_labels T.F_cel_labels) .nil lits_nil (da_cons (de_v 0) (da_cons (de_v 3) da_nil))))
    (dss_one (ds_ret (de_lst (da_cons (de_v 3) (da_cons (de_v 5) (da_cons (de_v 6) (da_cons (de_fn (FnG.up (ok_cel_web T) (by decide)) hr hg T.m_cel_web T.F_cel_web.kp (b_cel_web T.F_cel_web) .nil lits_nil (da_cons (de_v 6) (da_cons (de_v 5) da_nil))) da_nil)))))))))))
theorem ok_cel_bentL (T : Txt P w K mg) : FnD P w K mg base 2 T.a_cel_bentL T.d_cel_bentL ["_law_cup_here", "_law_lines", "_law_labels_here"] (sp_cel_bentL T.a_Web) := by
  refine fnD_ok (w0 := w_cel_bentL T.a_Web) (fun_at T.F_cel_bentL) sc_cel_bentL (len_cel_bentL _) (fun cdv A outer s H E hr hg => ?_) (pure_cel_bentL T.a_Web)
  exact (dss_cons (ds_if (dt_c (do_eqT (u65 hr)) (de_v 1) (de_tup da_nil)) (dss_one (ds_ret (de_ix (u65 hr) (de_lst (da_cons (de_tupF da_nil) (da_cons de_non (da_cons (de_tupF (da_cons (de_tupF da_nil) da_nil)) (da_cons (de_lst (da_cons (de_tupF da_nil) da_nil)) da_nil))))) (de_fn (FnG.up (ok_cel_sip T) (by decide)) hr hg T.m_cel_sip T.F_cel_sip.kp (b_cel_sip T.F_cel_sip) .nil lits_nil (da_cons (de_v 0) (da_cons de_int da_nil)))))) dss_nil)
    (dss_cons (ds_asg (de_tup (da_cons (de_fn (FnG.up (ok_cel_sip T) (by decide)) hr hg T.m_cel_sip T.F_cel_sip.kp (b_cel_sip T.F_cel_sip) .nil lits_nil (da_cons (de_v 0) (da_cons (de_callB dc_len (by rfl) T.z_len boot_len (da_cons (de_v 1) da_nil)) da_nil))) (da_cons (de_fn (FnG.up (ok_cel_sip T) (by decide)) hr hg T.m_cel_sip T.F_cel_sip.kp (b_cel_sip T.F_cel_sip) .nil lits_nil (da_cons (de_v 0) (da_cons de_int da_nil))) da_nil))) (dg_tup rfl (dgs_cons (dg_v (i := 3) sc_cel_bentL.nd) (dgs_cons (dg_v (i := 4) sc_cel_bentL.nd) dgs_nil))))
    (dss_cons (ds_par (i := 5) (j := 6) rfl sc_cel_bentL.nd (da_cons (de_ix (u65 hr) (de_v 1) (de_v 3)) (da_cons (de_ix (u65 hr) (de_v 2) (de_fn (FnG.up (ok_cel_sip T) (by decide)) hr hg T.m_cel_sip T.F_cel_sip.kp (b_cel_sip T.F_cel_sip) .nil lits_nil (da_cons (de_v 0) (da_cons (de_callB dc_len (by rfl) T.z_len boot_len (da_cons (de_v 2) da_nil)) da_nil)))) da_nil)))
    (dss_cons (ds_if (dt_c (do_eq (u65 hr)) (de_v 4) de_int) (dss_one (ds_ret (de_ix (u65 hr) (de_lst (da_cons (de_callTy dc_list (by rfl) T.z_list boot_list (da_cons (de_v 1) da_nil)) (da_cons de_non (da_cons (de_tupF da_nil) (da_cons (de_revT (de_v 1)) (da_cons (de_o do_addG (de_v 1) (de_slG (de_v 1) dp_none (dp_some de_int))) da_nil)))))) (de_fn (FnG.up (ok_cel_sip T) (by decide)) hr hg T.m_cel_sip T.F_cel_sip.kp (b_cel_sip T.F_cel_sip) .nil lits_nil (da_cons (de_v 0) (da_cons de_int da_nil)))))) dss_nil)
    (dss_cons (ds_if (dt_c (do_eq (u65 hr)) (de_v 4) de_int) (dss_one (ds_ret (de_o do_addG (de_slG (de_v 1) dp_none (dp_some (de_v 3))) (de_slG (de_v 1) (dp_some (de_o do_add (de_v 3) de_int)) dp_none)))) dss_nil)
    (dss_cons (ds_if (dt_c do_lt (de_v 4) de_int) (dss_cons (ds_set (i := 7) sc_cel_bentL.nd (de_ix (u65 hr) (de_lst (da_cons (de_revT (de_v 5)) (da_cons (de_o do_addG (de_v 5) (de_tupF (da_cons (de_v 6) da_nil))) (da_cons (de_slG (de_v 5) (dp_some de_int) dp_none) (da_cons (de_callTy dc_list (by rfl) T.z_list boot_list (da_cons (de_v 5) da_nil)) (da_cons (de_o do_addG (de_slG (de_v 5) dp_none (dp_some (de_u do_neg de_int))) (de_tupF (da_cons de_non da_nil))) (da_cons (de_o do_addG (de_slG (de_v 5) dp_none (dp_some (de_u do_neg de_int))) (de_tupF (da_cons (de_v 6) da_nil))) da_nil))))))) (de_fn (FnG.up (ok_cel_sip T) (by decide)) hr hg T.m_cel_sip T.F_cel_sip.kp (b_cel_sip T.F_cel_sip) .nil lits_nil (da_cons (de_v 0) (da_cons de_int da_nil)))))
    (dss_one (ds_ret (de_o do_addG (de_o do_addG (de_slG (de_v 1) dp_none (dp_some (de_v 3))) (de_tupF (da_cons (de_v 7) da_nil))) (de_slG (de_v 1) (dp_some (de_o do_add (de_v 3) de_int)) dp_none))))) dss_nil)
    (dss_cons (ds_if (dw_pt (dw_and (dt_c (do_eq (u65 hr)) (de_v 4) de_int) (dw_and1 (dt_c do_gt (de_callB dc_len (by rfl) T.z_len boot_len (da_cons (de_v 1) da_nil)) de_int)))) (dss_cons (ds_set (i := 8) sc_cel_bentL.nd (de_o do_mod (de_callTy dc_int (by rfl) T.z_int boot_int (da_cons (de_o do_add (de_v 3) de_int) da_nil)) (de_callB dc_len (by rfl) T.z_len boot_len (da_cons (de_v 1) da_nil))))
    (dss_one (ds_ret (de_callTy dc_tupleF (by rfl) T.z_tuple boot_tuple (da_cons (de_o do_add (de_lcP rfl sc_cel_bentL.nd (di_enum T.z_enumerate (da_cons (de_v 1) da_nil)) (own := [("_law_k", 9), ("_law_each", 10)]) (nt := (.t [9, 10])) (blkOk_by (by kernel_rfl)) (by decide) (fun _ _ _ _ _ => (pg_tup rfl (pgs_cons (pg_name (i := 9) sc_cel_bentL.nd rfl (.inl rfl)) (pgs_cons (pg_name (i := 10) sc_cel_bentL.nd rfl (.inl rfl)) pgs_nil)))) (fun _ _ _ _ _ => (dts_one (dt_c (do_notIn (u65 hr)) (de_v 9) (de_lst (da_cons (de_v 3) (da_cons (de_v 8) da_nil)))))) (fun _ _ _ _ _ => (de_v 10))) (de_lst (da_cons (de_o do_addG (de_v 5) (de_ix (u65 hr) (de_v 1) (de_v 8))) da_nil))) da_nil))))) dss_nil)
    (dss_one (ds_ret (de_v 1))))))))))
theorem ok_cel_are_pl (T : Txt P w K mg) : FnD P w K mg base 1 T.a_cel_are_pl T.d_cel_are_pl ["_law_labels_here", "_law_thing"] (sp_cel_are_pl T.a_Web) := by
  refine fnD_ok (w0 := w_cel_are_pl T.a_Web) (fun_at T.F_cel_are_pl) sc_cel_are_pl (len_cel_are_pl _) (fun cdv A outer s H E hr hg => ?_) (pure_cel_are_pl T.a_Web)
  exact (dss_cons (ds_if (dw_pt (dw_or (dt_not (dt_b (de_callB (dc_isiT "tuple" [] (by decide) (fun _ h => nomatch h)) (by rfl) T.z_isinstance boot_isinstance (da_cons (de_v 1) (da_cons (de_bT T.z_tuple boot_tuple) da_nil))))) (dw_or1 (dt_c (do_neL (u65 hr)) (de_lcP rfl sc_cel_are_pl.nd (di_seq (de_v 1)) (own := [("_law_each", 2)]) (nt := (.n 2)) (blkOk_by (by kernel_rfl)) (by decide) (fun _ _ _ _ _ => (pg_name (i := 2) sc_cel_are_pl.nd rfl (.inl rfl))) (fun _ _ _ _ _ => (dts_one (dw_pt (dw_or (dt_not (dt_b (de_callB (dc_isiT "str" [] (by decide) (fun _ h => nomatch h)) (by rfl) T.z_isinstance boot_isinstance (da_cons (de_v 2) (da_cons (de_bT T.z_str boot_str) da_nil))))) (dw_or1 (dt_c (do_notIn (u65 hr)) (de_v 2) (de_v 0))))))) (fun _ _ _ _ _ => (de_v 2))) (de_lst da_nil))))) (dss_one (ds_ret de_bl)) dss_nil)
    (dss_one (ds_ret (de_c (do_eq (u65 hr)) (de_lcP rfl sc_cel_are_pl.nd (di_seq (de_v 1)) (own := [("_law_each", 2)]) (nt := (.n 2)) (blkOk_by (by kernel_rfl)) (by decide) (fun _ _ _ _ _ => (pg_name (i := 2) sc_cel_are_pl.nd rfl (.inl rfl))) (fun _ _ _ _ _ => (dts_one (dt_c do_gt (de_bmT dm_tcount PySem.F.slot_tuple_count PySem.F.type_tuple_count (de_v 1) (da_cons (de_v 2) da_nil)) de_int))) (fun _ _ _ _ _ => (de_v 2))) (de_lst da_nil)))))
theorem ok_cel_bars (T : Txt P w K mg) : FnD P w K mg base 2 T.a_cel_bars T.d_cel_bars ["_law_labels_here", "_law_links_here", "_law_thing"] (sp_cel_bars T.a_Web) := by
  refine fnD_ok (w0 := w_cel_bars T.a_Web) (fun_at T.F_cel_bars) sc_cel_bars (len_cel_bars _) (fun cdv A outer s H E hr hg => ?_) (pure_cel_bars T.a_Web)
  exact (dss_cons (ds_if (dw_pt (dw_or (dt_not (dt_b (de_callB (dc_isiT "tuple" [] (by decide) (fun _ h => nomatch h)) (by rfl) T.z_isinstance boot_isinstance (da_cons (de_v 2) (da_cons (de_bT T.z_tuple boot_tuple) da_nil))))) (dw_or (dt_c (do_ne (u65 hr)) (de_callB dc_len (by rfl) T.z_len boot_len (da_cons (de_v 2) da_nil)) de_int) (dw_or1 (dt_c (do_neL (u65 hr)) (de_lcP rfl sc_cel_bars.nd (di_seq (de_v 2)) (own := [("_law_part", 3)]) (nt := (.n 3)) (blkOk_by (by kernel_rfl)) (by decide) (fun _ _ _ _ _ => (pg_name (i := 3) sc_cel_bars.nd rfl (.inl rfl))) (fun _ _ _ _ _ => (dts_one (dt_not (dt_b (de_fn (FnG.up (ok_cel_are_pl T) (by decide)) hr hg T.m_cel_are_pl T.F_cel_are_pl.kp (b_cel_are_pl T.F_cel_are_pl) .nil lits_nil (da_cons (de_v 0) (da_cons (de_v 3) da_nil))))))) (fun _ _ _ _ _ => (de_v 3))) (de_lst da_nil)))))) (dss_one (ds_ret (de_lst da_nil))) dss_nil)
    (dss_cons (ds_if (dt_c (do_ne (u65 hr)) (de_lcP rfl sc_cel_bars.nd (di_seq (de_v 1)) (own := [("_law_a", 4), ("_law_b", 5)]) (nt := (.t [4, 5])) (blkOk_by (by kernel_rfl)) (by decide) (fun _ _ _ _ _ => (pg_tup rfl (pgs_cons (pg_name (i := 4) sc_cel_bars.nd rfl (.inl rfl)) (pgs_cons (pg_name (i := 5) sc_cel_bars.nd rfl (.inl rfl)) pgs_nil)))) (fun _ _ _ _ _ => (dts_one (dw_pt (dw_and (dt_c (do_notIn (u65 hr)) (de_ix (u65 hr) (de_v 0) (de_v 4)) (de_ix (u65 hr) (de_v 2) de_int)) (dw_and1 (dt_c (do_notIn (u65 hr)) (de_ix (u65 hr) (de_v 0) (de_v 5)) (de_ix (u65 hr) (de_v 2) de_int))))))) (fun _ _ _ _ _ => de_int)) (de_lst da_nil)) (dss_one (ds_ret (de_lst da_nil))) dss_nil)
    (dss_one (ds_ret (de_lst (da_cons (de_o do_sub (de_o do_sub (de_callB dc_len (by rfl) T.z_len boot_len (da_cons (de_v 0) da_nil)) (de_callB dc_len (by rfl) T.z_len boot_len (da_cons (de_ix (u65 hr) (de_v 2) de_int) da_nil))) (de_callB dc_len (by rfl) T.z_len boot_len (da_cons (de_ix (u65 hr) (de_v 2) de_int) da_nil))) da_nil))))))
theorem ok_cel_barR (T : Txt P w K mg) : FnD P w K mg base 9 T.a_cel_barR T.d_cel_barR ["_law_cup_here", "_law_labels_here", "_law_links_here", "_law_page"] (sp_cel_barR T.a_Web) := by
  refine fnD_ok (w0 := w_cel_barR T.a_Web) (fun_at T.F_cel_barR) sc_cel_barR (len_cel_barR _) (fun cdv A outer s H E hr hg => ?_) (pure_cel_barR T.a_Web)
  exact (dss_cons (ds_set (i := 4) sc_cel_barR.nd (de_callTy dc_tupleF (by rfl) T.z_tuple boot_tuple (da_cons (de_lcF rfl sc_cel_barR.nd (di_seq (de_v 1)) (own := [("_law_label", 10)]) (nt := (.n 10)) (blkOk_by (by kernel_rfl)) (by decide) (fun _ _ _ _ _ => (pg_name (i := 10) sc_cel_barR.nd rfl (.inl rfl))) (fun _ _ _ _ _ => (dts_one (dt_c (do_eq (u65 hr)) (de_fn (FnG.up (ok_cel_sip T) (by decide)) hr hg T.m_cel_sip T.F_cel_sip.kp (b_cel_sip T.F_cel_sip) .nil lits_nil (da_cons (de_v 0) (da_cons de_int da_nil))) de_int))) (fun _ _ _ _ _ => (de_v 10))) da_nil)))
    (dss_cons (ds_set (i := 5) sc_cel_barR.nd (de_lcP rfl sc_cel_barR.nd (di_seq (de_v 2)) (own := [("_law_a", 11), ("_law_b", 12)]) (nt := (.t [11, 12])) (blkOk_by (by kernel_rfl)) (by decide) (fun _ _ _ _ _ => (pg_tup rfl (pgs_cons (pg_name (i := 11) sc_cel_barR.nd rfl (.inl rfl)) (pgs_cons (pg_name (i := 12) sc_cel_barR.nd rfl (.inl rfl)) pgs_nil)))) (fun _ _ _ _ _ => (dts_one (dt_c (do_notIn (u65 hr)) (de_ix (u65 hr) (de_v 1) (de_v 11)) (de_v 4)))) (fun _ _ _ _ _ => (de_ix (u65 hr) (de_v 1) (de_v 12)))))
    (dss_cons (ds_set (i := 6) sc_cel_barR.nd (de_tupF (da_cons (de_v 4) (da_cons (de_callTy dc_tupleF (by rfl) T.z_tuple boot_tuple (da_cons (de_lcP rfl sc_cel_barR.nd (di_seq (de_v 1)) (own := [("_law_label", 10)]) (nt := (.n 10)) (blkOk_by (by kernel_rfl)) (by decide) (fun _ _ _ _ _ => (pg_name (i := 10) sc_cel_barR.nd rfl (.inl rfl))) (fun _ _ _ _ _ => (dts_one (dt_c (do_in (u65 hr)) (de_v 10) (de_v 5)))) (fun _ _ _ _ _ => (de_v 10))) da_nil)) da_nil))))
    (dss_cons (ds_set (i := 6) sc_cel_barR.nd (de_if (dt_c (do_eq (u65 hr)) (de_fn (FnG.up (ok_cel_sip T) (by decide)) hr hg T.m_cel_sip T.F_cel_sip.kp (b_cel_sip T.F_cel_sip) .nil lits_nil (da_cons (de_v 0) (da_cons de_int da_nil))) de_int) (de_v 6) (de_fn (FnG.up (ok_cel_bentL T) (by decide)) hr hg T.m_cel_bentL T.F_cel_bentL.kp (b_cel_bentL T.F_cel_bentL) .nil lits_nil (da_cons (de_v 0) (da_cons (de_v 6) (da_cons (de_v 1) da_nil))))))
    (dss_cons (ds_set (i := 7) sc_cel_barR.nd (de_fn (FnG.up (ok_cel_bars T) (by decide)) hr hg T.m_cel_bars T.F_cel_bars.kp (b_cel_bars T.F_cel_bars) .nil lits_nil (da_cons (de_v 1) (da_cons (de_v 2) (da_cons (de_v 6) da_nil)))))
    (dss_cons (ds_set (i := 8) sc_cel_barR.nd (de_if (dt_c (do_eq (u65 hr)) (de_v 7) (de_lst da_nil)) de_int (de_ix (u65 hr) (de_v 7) de_int)))
    (dss_cons (ds_for PassesOwn.never rfl (di_seq (de_lst (da_cons (de_v 8) (da_cons (de_o do_add (de_v 8) de_int) (da_cons (de_o do_sub (de_v 8) de_int) (da_cons (de_u do_neg de_int) da_nil)))))) (dg_v (i := 9) sc_cel_barR.nd) (dss_one (ds_if (dt_c (do_ne (u65 hr)) (de_callB dc_reprB (by rfl) T.z_repr boot_repr (da_cons (de_fn (FnG.up (ok_acceptsG T) (by decide)) hr hg T.m_acceptsG T.F_acceptsG.kp (b_acceptsG T.F_acceptsG) .nil lits_nil (da_cons (de_tup (da_cons de_str (da_cons (de_v 3) (da_cons (de_v 9) da_nil)))) (da_cons (de_v 6) da_nil))) da_nil)) (de_callB dc_reprB (by rfl) T.z_repr boot_repr (da_cons (de_and (de_c (do_ne (u65 hr)) (de_v 7) (de_lst da_nil)) (de_one (de_c do_le (de_v 9) (de_v 8)))) da_nil))) (dss_one (ds_ret de_bl)) dss_nil)))
    (dss_one (ds_ret de_bl)))))))))
theorem ok_cel_colR (T : Txt P w K mg) : FnD P w K mg base 9 T.a_cel_colR T.d_cel_colR ["_law_cup_here", "_law_labels_here", "_law_links_here", "_law_page"] (sp_cel_colR T.a_Web) := by
  refine fnD_ok (w0 := w_cel_colR T.a_Web) (fun_at T.F_cel_colR) sc_cel_colR (len_cel_colR _) (fun cdv A outer s H E hr hg => ?_) (pure_cel_colR T.a_Web)
  exact (dss_cons (ds_set (i := 4) sc_cel_colR.nd (de_callB dc_len (by rfl) T.z_len boot_len (da_cons (de_v 1) da_nil)))
    (dss_cons (ds_set (i := 5) sc_cel_colR.nd (de_lc rfl sc_cel_colR.nd (di_rng1 T.z_range (da_cons (de_v 4) da_nil)) (own := [("_law_k", 9)]) (nt := (.n 9)) (blkOk_by (by kernel_rfl)) (by decide) (fun _ _ _ _ _ => (pg_name (i := 9) sc_cel_colR.nd rfl (.inl rfl))) (fun _ _ _ _ _ => dts_nil) (fun _ _ _ _ _ => (de_o do_add de_int (de_fn (FnG.up (ok_cel_sip T) (by decide)) hr hg T.m_cel_sip T.F_cel_sip.kp (b_cel_sip T.F_cel_sip) .nil lits_nil (da_cons (de_v 0) (da_cons (de_v 4) da_nil)))))))
    (dss_cons (ds_cl (ds_if (dt_c (do_eq (u65 hr)) (de_fn (FnG.up (ok_cel_sip T) (by decide)) hr hg T.m_cel_sip T.F_cel_sip.kp (b_cel_sip T.F_cel_sip) .nil lits_nil (da_cons (de_v 0) (da_cons de_int da_nil))) de_int) (dss_one (ds_set (i := 5) sc_cel_colR.nd (de_lstR2O rfl T.z_list T.z_range de_int (de_o do_add (de_v 4) de_int)))) dss_nil))
    (dss_cons (ds_if (dt_c (do_eq (u65 hr)) (de_fn (FnG.up (ok_cel_sip T) (by decide)) hr hg T.m_cel_sip T.F_cel_sip.kp (b_cel_sip T.F_cel_sip) .nil lits_nil (da_cons (de_v 0) (da_cons de_int da_nil))) de_int) (dss_one (ds_sub (u65 hr) (de_v 5) (de_fn (FnG.up (ok_cel_sip T) (by decide)) hr hg T.m_cel_sip T.F_cel_sip.kp (b_cel_sip T.F_cel_sip) .nil lits_nil (da_cons (de_v 0) (da_cons (de_v 4) da_nil))) (de_ix (u65 hr) (de_lst (da_cons de_int (da_cons (de_u do_neg de_int) (da_cons de_bl (da_cons de_non (da_cons de_str (da_cons (de_o do_pow de_int de_int) da_nil))))))) (de_fn (FnG.up (ok_cel_sip T) (by decide)) hr hg T.m_cel_sip T.F_cel_sip.kp (b_cel_sip T.F_cel_sip) .nil lits_nil (da_cons (de_v 0) (da_cons de_int da_nil)))))) dss_nil)
    (dss_cons (ds_cl (ds_set (i := 5) sc_cel_colR.nd (de_ix (u65 hr) (de_lst (da_cons (de_callTy dc_tuple (by rfl) T.z_tuple boot_tuple (da_cons (de_v 5) da_nil)) (da_cons (de_callTy dc_tuple (by rfl) T.z_tuple boot_tuple (da_cons (de_v 5) da_nil)) (da_cons (de_callTy dc_tuple (by rfl) T.z_tuple boot_tuple (da_cons (de_v 5) da_nil)) (da_cons (de_v 5) (da_cons (de_callTy dc_tuple (by rfl) T.z_tuple boot_tuple (da_cons (de_sl (de_v 5) (dp_some de_int) dp_none) da_nil)) da_nil)))))) (de_fn (FnG.up (ok_cel_sip T) (by decide)) hr hg T.m_cel_sip T.F_cel_sip.kp (b_cel_sip T.F_cel_sip) .nil lits_nil (da_cons (de_v 0) (da_cons de_int da_nil))))))
    (dss_cons (ds_set (i := 6) sc_cel_colR.nd (de_and (de_callB (dc_isiT "tuple" [] (by decide) (fun _ h => nomatch h)) (by rfl) T.z_isinstance boot_isinstance (da_cons (de_v 5) (da_cons (de_bT T.z_tuple boot_tuple) da_nil))) (de_one (de_c (do_eq (u65 hr)) (de_callB dc_len (by rfl) T.z_len boot_len (da_cons (de_v 5) da_nil)) (de_v 4)))))
    (dss_cons (ds_if (dt_b (de_v 6)) (dss_one (ds_set (i := 6) sc_cel_colR.nd (de_c (do_eq (u65 hr)) (de_lcP rfl sc_cel_colR.nd (di_seq (de_v 5)) (own := [("_law_each", 10)]) (nt := (.n 10)) (blkOk_by (by kernel_rfl)) (by decide) (fun _ _ _ _ _ => (pg_name (i := 10) sc_cel_colR.nd rfl (.inl rfl))) (fun _ _ _ _ _ => (dts_one (dw_pt (dw_or (dt_not (dt_b (de_callB (dc_isiT "int" [] (by decide) (fun _ h => nomatch h)) (by rfl) T.z_isinstance boot_isinstance (da_cons (de_v 10) (da_cons (de_bT T.z_int boot_int) da_nil))))) (dw_or (dt_b (de_callB (dc_isiT "bool" [] (by decide) (fun _ h => nomatch h)) (by rfl) T.z_isinstance boot_isinstance (da_cons (de_v 10) (da_cons (de_bT T.z_bool boot_bool) da_nil)))) (dw_or1 (dt_c do_lt (de_v 10) de_int))))))) (fun _ _ _ _ _ => (de_v 10))) (de_lst da_nil)))) dss_nil)
    (dss_cons (ds_if (dt_b (de_v 6)) (dss_one (ds_set (i := 6) sc_cel_colR.nd (de_c (do_eq (u65 hr)) (de_lcP rfl sc_cel_colR.nd (di_seq (de_v 2)) (own := [("_law_a", 11), ("_law_b", 12)]) (nt := (.t [11, 12])) (blkOk_by (by kernel_rfl)) (by decide) (fun _ _ _ _ _ => (pg_tup rfl (pgs_cons (pg_name (i := 11) sc_cel_colR.nd rfl (.inl rfl)) (pgs_cons (pg_name (i := 12) sc_cel_colR.nd rfl (.inl rfl)) pgs_nil)))) (fun _ _ _ _ _ => (dts_one (dt_c (do_eq (u65 hr)) (de_ix (u65 hr) (de_v 5) (de_v 11)) (de_ix (u65 hr) (de_v 5) (de_v 12))))) (fun _ _ _ _ _ => de_int)) (de_lst da_nil)))) dss_nil)
    (dss_cons (ds_for PassesOwn.never rfl (di_seq (de_lst (da_cons de_int (da_cons (de_v 4) (da_cons (de_o do_sub (de_v 4) de_int) (da_cons (de_o do_pow de_int de_int) da_nil)))))) (dg_v (i := 7) sc_cel_colR.nd) (dss_cons (ds_set (i := 8) sc_cel_colR.nd (de_and (de_v 6) (de_one (de_c do_le (de_callB (dc_maxT rfl) (by rfl) T.z_max boot_max (da_cons (de_v 5) da_nil)) (de_v 7)))))
    (dss_one (ds_if (dt_c (do_ne (u65 hr)) (de_callB dc_reprB (by rfl) T.z_repr boot_repr (da_cons (de_fnK0 (FnG.up (ok_acceptsG T) (by decide)) hr hg T.m_acceptsG T.F_acceptsG.kp (kb_acceptsG_10 T.F_acceptsG) gd_10 (dk_cons (de_v 5) (dk_cons (de_tup (da_cons de_str (da_cons (de_v 3) (da_cons (de_v 7) da_nil)))) dk_nil))) da_nil)) (de_callB dc_reprB (by rfl) T.z_repr boot_repr (da_cons (de_v 8) da_nil))) (dss_one (ds_ret de_bl)) dss_nil))))
    (dss_one (ds_ret de_bl)))))))))))
theorem ok_cel_shut (T : Txt P w K mg) : FnD P w K mg base 1 T.a_cel_shut T.d_cel_shut ["_law_many", "_law_links_here", "_law_k"] (sp_cel_shut T.a_Web) := by
  refine fnD_ok (w0 := w_cel_shut T.a_Web) (fun_at T.F_cel_shut) sc_cel_shut (len_cel_shut _) (fun cdv A outer s H E hr hg => ?_) (pure_cel_shut T.a_Web)
  exact (dss_cons (ds_set (i := 3) sc_cel_shut.nd (de_lst (da_cons (de_v 2) da_nil)))
    (dss_cons (ds_for PassesOwn.never rfl (di_rng1 T.z_range (da_cons (de_v 0) da_nil)) (dg_v (i := 4) sc_cel_shut.nd) (dss_one (ds_set (i := 3) sc_cel_shut.nd (de_o do_add (de_v 3) (de_sortsetI rfl (by rfl) T.z_sorted boot_sorted (by rfl) T.z_set boot_set (de_lcP rfl sc_cel_shut.nd (di_seq (de_v 1)) (own := [("_law_a", 5), ("_law_b", 6)]) (nt := (.t [5, 6])) (blkOk_by (by kernel_rfl)) (by decide) (fun _ _ _ _ _ => (pg_tup rfl (pgs_cons (pg_name (i := 5) sc_cel_shut.nd rfl (.inl rfl)) (pgs_cons (pg_name (i := 6) sc_cel_shut.nd rfl (.inl rfl)) pgs_nil)))) (fun _ _ _ _ _ => (dts_one (dw_pt (dw_and (dt_c (do_in (u65 hr)) (de_v 5) (de_v 3)) (dw_and1 (dt_c (do_notIn (u65 hr)) (de_v 6) (de_v 3))))))) (fun _ _ _ _ _ => (de_v 6))))))))
    (dss_one (ds_ret (de_v 3)))))
theorem ok_cel_apR (T : Txt P w K mg) : FnD P w K mg base 9 T.a_cel_apR T.d_cel_apR ["_law_cup_here", "_law_labels_here", "_law_links_here", "_law_page"] (sp_cel_apR T.a_Web) := by
  refine fnD_ok (w0 := w_cel_apR T.a_Web) (fun_at T.F_cel_apR) sc_cel_apR (len_cel_apR _) (fun cdv A outer s H E hr hg => ?_) (pure_cel_apR T.a_Web)
  exact (dss_cons (ds_par (i := 4) (j := 5) rfl sc_cel_apR.nd (da_cons (de_callB dc_len (by rfl) T.z_len boot_len (da_cons (de_v 1) da_nil)) (da_cons (de_new da_nil) da_nil)))
    (dss_cons (ds_for PassesOwn.never rfl (di_seq (de_sl (de_fn (FnG.up (ok_cel_order T) (by decide)) hr hg T.m_cel_order T.F_cel_order.kp (b_cel_order T.F_cel_order) .nil lits_nil (da_cons (de_v 0) (da_cons (de_v 4) da_nil))) dp_none (dp_some (de_o do_add de_int (de_fn (FnG.up (ok_cel_sip T) (by decide)) hr hg T.m_cel_sip T.F_cel_sip.kp (b_cel_sip T.F_cel_sip) .nil lits_nil (da_cons (de_v 0) (da_cons de_int da_nil))))))) (dg_v (i := 6) sc_cel_apR.nd) (dss_cons (ds_set (i := 7) sc_cel_apR.nd (de_fn (FnG.up (ok_cel_shut T) (by decide)) hr hg T.m_cel_shut T.F_cel_shut.kp (b_cel_shut T.F_cel_shut) .nil lits_nil (da_cons (de_v 4) (da_cons (de_v 2) (da_cons (de_v 6) da_nil)))))
    (dss_cons (ds_if (dt_c (do_eq (u65 hr)) (de_fn (FnG.up (ok_cel_sip T) (by decide)) hr hg T.m_cel_sip T.F_cel_sip.kp (b_cel_sip T.F_cel_sip) .nil lits_nil (da_cons (de_v 0) (da_cons de_int da_nil))) de_int) (dss_one (ds_set (i := 7) sc_cel_apR.nd (de_if (dt_c (do_eq (u65 hr)) (de_fn (FnG.up (ok_cel_sip T) (by decide)) hr hg T.m_cel_sip T.F_cel_sip.kp (b_cel_sip T.F_cel_sip) .nil lits_nil (da_cons (de_v 0) (da_cons de_int da_nil))) de_int) (de_sl (de_v 7) dp_none (dp_some (de_u do_neg de_int))) (de_o do_add (de_v 7) (de_lst (da_cons (de_fn (FnG.up (ok_cel_sip T) (by decide)) hr hg T.m_cel_sip T.F_cel_sip.kp (b_cel_sip T.F_cel_sip) .nil lits_nil (da_cons (de_v 0) (da_cons (de_v 4) da_nil))) da_nil)))))) dss_nil)
    (dss_one (ds_expr (de_bm dm_append F.plainAttrs_list F.slot_list_append F.type_list_append (de_v 5) (da_cons (de_tup (da_cons (de_ix (u65 hr) (de_v 1) (de_v 6)) (da_cons (de_callTy dc_tupleF (by rfl) T.z_tuple boot_tuple (da_cons (de_lcP rfl sc_cel_apR.nd (di_seq (de_v 7)) (own := [("_law_j", 15)]) (nt := (.n 15)) (blkOk_by (by kernel_rfl)) (by decide) (fun _ _ _ _ _ => (pg_name (i := 15) sc_cel_apR.nd rfl (.inl rfl))) (fun _ _ _ _ _ => dts_nil) (fun _ _ _ _ _ => (de_ix (u65 hr) (de_v 1) (de_v 15)))) da_nil)) da_nil))) da_nil)))))))
    (dss_cons (ds_cl (ds_set (i := 8) sc_cel_apR.nd (de_callTy dc_tuple (by rfl) T.z_tuple boot_tuple (da_cons (de_v 5) da_nil))))
    (dss_cons (ds_par (i := 9) (j := 10) rfl sc_cel_apR.nd (da_cons (de_lcP rfl sc_cel_apR.nd (di_seq (de_v 5)) (own := [("_law_pair", 16)]) (nt := (.n 16)) (blkOk_by (by kernel_rfl)) (by decide) (fun _ _ _ _ _ => (pg_name (i := 16) sc_cel_apR.nd rfl (.inl rfl))) (fun _ _ _ _ _ => dts_nil) (fun _ _ _ _ _ => (de_ix (u65 hr) (de_v 16) de_int))) (da_cons de_bl da_nil)))
    (dss_cons (ds_for PassesOwn.never rfl (di_seq (de_v 5)) (dg_tup rfl (dgs_cons (dg_v (i := 11) sc_cel_apR.nd) (dgs_cons (dg_v (i := 7) sc_cel_apR.nd) dgs_nil))) (dss_cons (ds_set (i := 12) sc_cel_apR.nd (de_c (do_eq (u65 hr)) (de_lcP rfl sc_cel_apR.nd (di_seq (de_v 2)) (own := [("_law_a", 17), ("_law_b", 18)]) (nt := (.t [17, 18])) (blkOk_by (by kernel_rfl)) (by decide) (fun _ _ _ _ _ => (pg_tup rfl (pgs_cons (pg_name (i := 17) sc_cel_apR.nd rfl (.inl rfl)) (pgs_cons (pg_name (i := 18) sc_cel_apR.nd rfl (.inl rfl)) pgs_nil)))) (fun _ _ _ _ _ => (dts_one (dw_pt (dw_and (dt_c (do_in (u65 hr)) (de_ix (u65 hr) (de_v 1) (de_v 17)) (de_v 7)) (dw_and1 (dt_c (do_notIn (u65 hr)) (de_ix (u65 hr) (de_v 1) (de_v 18)) (de_v 7))))))) (fun _ _ _ _ _ => de_int)) (de_lst da_nil)))
    (dss_cons (ds_setLcP (i := 13) rfl sc_cel_apR.nd (di_seq (de_v 9)) (own := [("_law_each", 19)]) (nt := (.n 19)) (blkOk_by (by kernel_rfl)) (by decide) (fun _ _ _ _ _ => (pg_name (i := 19) sc_cel_apR.nd rfl (.inl rfl))) (fun _ _ _ _ _ => (dts_one (dw_pt (dw_and (dt_c (do_ne (u65 hr)) (de_v 19) (de_v 11)) (dw_and1 (dt_c (do_in (u65 hr)) (de_v 19) (de_v 7))))))) (fun _ _ _ _ _ => (de_v 19)))
    (dss_one (ds_if (dw_pt (dw_or (dt_not (dt_b (de_fn (FnG.up (ok_cel_are_pl T) (by decide)) hr hg T.m_cel_are_pl T.F_cel_are_pl.kp (b_cel_are_pl T.F_cel_are_pl) .nil lits_nil (da_cons (de_v 1) (da_cons (de_v 7) da_nil))))) (dw_or (dt_c (do_notIn (u65 hr)) (de_v 11) (de_v 7)) (dw_or (dt_not (dt_b (de_v 12))) (dw_or1 (dt_c (do_ne (u65 hr)) (de_v 13) (de_lst da_nil))))))) (dss_one (ds_set (i := 10) sc_cel_apR.nd de_bl)) dss_nil)))))
    (dss_cons (ds_for PassesOwn.never rfl (di_seq (de_lst (da_cons (de_callB dc_len (by rfl) T.z_len boot_len (da_cons (de_v 5) da_nil)) (da_cons (de_o do_add (de_callB dc_len (by rfl) T.z_len boot_len (da_cons (de_v 5) da_nil)) de_int) (da_cons (de_o do_sub (de_callB dc_len (by rfl) T.z_len boot_len (da_cons (de_v 5) da_nil)) de_int) da_nil))))) (dg_v (i := 14) sc_cel_apR.nd) (dss_one (ds_if (dt_c (do_ne (u65 hr)) (de_callB dc_reprB (by rfl) T.z_repr boot_repr (da_cons (de_fn (FnG.up (ok_acceptsG T) (by decide)) hr hg T.m_acceptsG T.F_acceptsG.kp (b_acceptsG T.F_acceptsG) .nil lits_nil (da_cons (de_tup (da_cons de_str (da_cons (de_v 3) (da_cons (de_v 14) da_nil)))) (da_cons (de_v 8) da_nil))) da_nil)) (de_callB dc_reprB (by rfl) T.z_repr boot_repr (da_cons (de_and (de_v 10) (de_one (de_c (do_eq (u65 hr)) (de_v 14) (de_callB dc_len (by rfl) T.z_len boot_len (da_cons (de_v 5) da_nil))))) da_nil))) (dss_one (ds_ret de_bl)) dss_nil)))
    (dss_one (ds_ret (de_and (de_not (de_fn (FnG.up (ok_acceptsG T) (by decide)) hr hg T.m_acceptsG T.F_acceptsG.kp (b_acceptsG T.F_acceptsG) .nil lits_nil (da_cons (de_tup (da_cons de_str (da_cons (de_v 3) (da_cons (de_callB dc_len (by rfl) T.z_len boot_len (da_cons (de_v 5) da_nil)) da_nil)))) (da_cons (de_v 5) da_nil)))) (de_one (de_not (de_fn (FnG.up (ok_acceptsG T) (by decide)) hr hg T.m_acceptsG T.F_acceptsG.kp (b_acceptsG T.F_acceptsG) .nil lits_nil (da_cons (de_tup (da_cons de_str (da_cons (de_v 3) (da_cons de_int da_nil)))) (da_cons (de_o do_mulT (de_sl (de_v 8) dp_none (dp_some de_int)) de_int) da_nil))))))))))))))
theorem ok_k63_right (T : Txt P w K mg) : FnD P w K mg base 10 T.a_k63_right T.d_k63_right ["_law_cup_here"] (sp_k63_right T.a_Web) := by
  refine fnD_ok (w0 := w_k63_right T.a_Web) (fun_at T.F_k63_right) sc_k63_right (len_k63_right _) (fun cdv A outer s H E hr hg => ?_) (pure_k63_right T.a_Web)
  exact (dss_cons (ds_asg (de_fn (FnG.up (ok_cel_scene T) (by decide)) hr hg T.m_cel_scene T.F_cel_scene.kp (b_cel_scene T.F_cel_scene) .nil lits_nil (da_cons (de_v 0) (da_cons de_int (da_cons (de_lst (da_cons de_int (da_cons de_int (da_cons de_int (da_cons de_int da_nil))))) da_nil)))) (dg_lst rfl (dgs_cons (dg_v (i := 1) sc_k63_right.nd) (dgs_cons (dg_v (i := 2) sc_k63_right.nd) (dgs_cons (dg_v (i := 3) sc_k63_right.nd) (dgs_cons (dg_v (i := 4) sc_k63_right.nd) dgs_nil))))))
    (dss_cons (ds_set (i := 5) sc_k63_right.nd (de_callTy (dc_strO T.h___str__.at_ T.h___str__.fn (ok_Web_str T) (hr.mono (by decide)) hg (b_Web_str T.F_Web_str)) (by rfl) T.z_str boot_str (da_cons (de_v 4) da_nil)))
    (dss_cons (ds_for PassesOwn.never rfl (di_rng1 T.z_range (da_cons de_int da_nil)) (dg_v (i := 6) sc_k63_right.nd) (dss_cons (ds_if (dw_pt (dw_or (dt_not (dt_b (de_fn (FnG.up (ok_cel_barR T) (by decide)) hr hg T.m_cel_barR T.F_cel_barR.kp (b_cel_barR T.F_cel_barR) .nil lits_nil (da_cons (de_v 0) (da_cons (de_v 3) (da_cons (de_v 2) (da_cons (de_v 5) da_nil))))))) (dw_or1 (dt_not (dt_b (de_fn (FnG.up (ok_cel_colR T) (by decide)) hr hg T.m_cel_colR T.F_cel_colR.kp (b_cel_colR T.F_cel_colR) .nil lits_nil (da_cons (de_v 0) (da_cons (de_v 3) (da_cons (de_v 2) (da_cons (de_v 5) da_nil)))))))))) (dss_one (ds_ret de_bl)) dss_nil)
    (dss_one (ds_if (dt_not (dt_b (de_fn (FnG.up (ok_cel_apR T) (by decide)) hr hg T.m_cel_apR T.F_cel_apR.kp (b_cel_apR T.F_cel_apR) .nil lits_nil (da_cons (de_v 0) (da_cons (de_v 3) (da_cons (de_v 2) (da_cons (de_v 5) da_nil))))))) (dss_one (ds_ret de_bl)) dss_nil))))
    (dss_one (ds_ret de_bl)))))
theorem ok_k63_law (T : Txt P w K mg) : FnD P w K mg base 11 T.a_k63_law T.d_k63_law ["_law_cells"] (sp_k63_law T.a_Web) := by
  refine fnD_ok (w0 := w_k63_law T.a_Web) (fun_at T.F_k63_law) sc_k63_law (len_k63_law _) (fun cdv A outer s H E hr hg => ?_) (pure_k63_law T.a_Web)
  exact (dss_one (ds_ret (de_callB (dc_all rfl) (by rfl) T.z_all boot_all (da_cons (de_lcF rfl sc_k63_law.nd (di_rng1 T.z_range (da_cons (de_callB (dc_max rfl) (by rfl) T.z_max boot_max (da_cons de_int (da_cons (de_callB (dc_min rfl) (by rfl) T.z_min boot_min (da_cons (de_callB dc_len (by rfl) T.z_len boot_len (da_cons (de_v 0) da_nil)) (da_cons de_int da_nil))) da_nil))) da_nil)) (own := [("_law_turn", 1)]) (nt := (.n 1)) (blkOk_by (by kernel_rfl)) (by decide) (fun _ _ _ _ _ => (pg_name (i := 1) sc_k63_law.nd rfl (.inl rfl))) (fun _ _ _ _ _ => dts_nil) (fun _ _ _ _ _ => (de_fn (FnG.up (ok_k63_right T) (by decide)) hr hg T.m_k63_right T.F_k63_right.kp (b_k63_right T.F_k63_right) .nil lits_nil (da_cons (de_fn (FnG.up (ok_cel_cup T) (by decide)) hr hg T.m_cel_cup T.F_cel_cup.kp (b_cel_cup T.F_cel_cup) .nil lits_nil (da_cons (de_v 0) (da_cons (de_v 1) da_nil))) da_nil)))) da_nil))))
end

end L2.DL
namespace L2.DL
open PySem PySem.Spec PyProof.Rows

/-! ### the head -/
theorem all_mk {l : PySem.W.OpenLaw} {w : World} {K : PySem.W.Frag} {h : Heap} {mg : Str → Option Value} {fa : Addr} {kz : ClassData} {C_InvalidText A_SIZES C f_is_name f_wrong_place f_is_pair f_wrong_tie f_check_places f_check_ties f_Web_init dT_Web_init da_Web_init f_Web_has_tie cp_read f_Web_read f_Web_len f_Web_str f_is_integerA f_web_told f_are_places f_shows_barred f_nv_parted f_nv_long f_is_colouring_of f_shows_coloured f_is_shut f_shows_apart f_acceptsG f_cel_cup f_cel_sip f_cel_labels f_cel_links f_cel_order f_cel_web f_cel_scene f_cel_bentL f_cel_are_pl f_cel_bars f_cel_barR f_cel_colR f_cel_shut f_cel_apR f_k63_right f_k63_law pa_places f_g_places pa_ties f_g_ties : Addr} {od_is_name an_is_name od_wrong_place an_wrong_place od_is_pair an_is_pair od_wrong_tie an_wrong_tie od_check_places an_check_places od_check_ties an_check_ties od_Web_init an_Web_init dd_Web_init od_Web_has_tie an_Web_has_tie od_Web_read an_Web_read od_Web_len an_Web_len od_Web_str an_Web_str od_is_integerA an_is_integerA od_web_told an_web_told od_are_places an_are_places od_shows_barred an_shows_barred od_nv_parted an_nv_parted od_nv_long an_nv_long od_is_colouring_of an_is_colouring_of od_shows_coloured an_shows_coloured od_is_shut an_is_shut od_shows_apart an_shows_apart od_acceptsG an_acceptsG od_cel_cup an_cel_cup od_cel_sip an_cel_sip od_cel_labels an_cel_labels od_cel_links an_cel_links od_cel_order an_cel_order od_cel_web an_cel_web od_cel_scene an_cel_scene od_cel_bentL an_cel_bentL od_cel_are_pl an_cel_are_pl od_cel_bars an_cel_bars od_cel_barR an_cel_barR od_cel_colR an_cel_colR od_cel_shut an_cel_shut od_cel_apR an_cel_apR od_k63_right an_k63_right od_k63_law an_k63_law od_g_places an_g_places od_g_ties an_g_ties : Option Addr} {oc_is_name kV_is_name dc_is_name pm_is_name cd_is_name ct_is_name oc_wrong_place kV_wrong_place dc_wrong_place pm_wrong_place cd_wrong_place ct_wrong_place oc_is_pair kV_is_pair dc_is_pair pm_is_pair cd_is_pair ct_is_pair oc_wrong_tie kV_wrong_tie dc_wrong_tie pm_wrong_tie cd_wrong_tie ct_wrong_tie oc_check_places kV_check_places dc_check_places pm_check_places cd_check_places ct_check_places oc_check_ties kV_check_ties dc_check_ties pm_check_ties cd_check_ties ct_check_ties oc_Web_init kV_Web_init dc_Web_init pm_Web_init cd_Web_init ct_Web_init do_Web_init dv_Web_init oc_Web_has_tie kV_Web_has_tie dc_Web_has_tie pm_Web_has_tie cd_Web_has_tie ct_Web_has_tie oc_Web_read kV_Web_read dc_Web_read pm_Web_read cd_Web_read ct_Web_read oc_Web_len kV_Web_len dc_Web_len pm_Web_len cd_Web_len ct_Web_len oc_Web_str kV_Web_str dc_Web_str pm_Web_str cd_Web_str ct_Web_str oc_is_integerA kV_is_integerA dc_is_integerA pm_is_integerA cd_is_integerA ct_is_integerA oc_web_told kV_web_told dc_web_told pm_web_told cd_web_told ct_web_told oc_are_places kV_are_places dc_are_places pm_are_places cd_are_places ct_are_places oc_shows_barred kV_shows_barred dc_shows_barred pm_shows_barred cd_shows_barred ct_shows_barred oc_nv_parted kV_nv_parted dc_nv_parted pm_nv_parted cd_nv_parted ct_nv_parted oc_nv_long kV_nv_long dc_nv_long pm_nv_long cd_nv_long ct_nv_long oc_is_colouring_of kV_is_colouring_of dc_is_colouring_of pm_is_colouring_of cd_is_colouring_of ct_is_colouring_of oc_shows_coloured kV_shows_coloured dc_shows_coloured pm_shows_coloured cd_shows_coloured ct_shows_coloured oc_is_shut kV_is_shut dc_is_shut pm_is_shut cd_is_shut ct_is_shut oc_shows_apart kV_shows_apart dc_shows_apart pm_shows_apart cd_shows_apart ct_shows_apart oc_acceptsG kV_acceptsG dc_acceptsG pm_acceptsG cd_acceptsG ct_acceptsG oc_cel_cup kV_cel_cup dc_cel_cup pm_cel_cup cd_cel_cup ct_cel_cup oc_cel_sip kV_cel_sip dc_cel_sip pm_cel_sip cd_cel_sip ct_cel_sip oc_cel_labels kV_cel_labels dc_cel_labels pm_cel_labels cd_cel_labels ct_cel_labels oc_cel_links kV_cel_links dc_cel_links pm_cel_links cd_cel_links ct_cel_links oc_cel_order kV_cel_order dc_cel_order pm_cel_order cd_cel_order ct_cel_order oc_cel_web kV_cel_web dc_cel_web pm_cel_web cd_cel_web ct_cel_web oc_cel_scene kV_cel_scene dc_cel_scene pm_cel_scene cd_cel_scene ct_cel_scene oc_cel_bentL kV_cel_bentL dc_cel_bentL pm_cel_bentL cd_cel_bentL ct_cel_bentL oc_cel_are_pl kV_cel_are_pl dc_cel_are_pl pm_cel_are_pl cd_cel_are_pl ct_cel_are_pl oc_cel_bars kV_cel_bars dc_cel_bars pm_cel_bars cd_cel_bars ct_cel_bars oc_cel_barR kV_cel_barR dc_cel_barR pm_cel_barR cd_cel_barR ct_cel_barR oc_cel_colR kV_cel_colR dc_cel_colR pm_cel_colR cd_cel_colR ct_cel_colR oc_cel_shut kV_cel_shut dc_cel_shut pm_cel_shut cd_cel_shut ct_cel_shut oc_cel_apR kV_cel_apR dc_cel_apR pm_cel_apR cd_cel_apR ct_cel_apR oc_k63_right kV_k63_right dc_k63_right pm_k63_right cd_k63_right ct_k63_right oc_k63_law kV_k63_law dc_k63_law pm_k63_law cd_k63_law ct_k63_law oc_g_places kV_g_places dc_g_places pm_g_places cd_g_places ct_g_places oc_g_ties kV_g_ties dc_g_ties pm_g_ties cd_g_ties ct_g_ties : Value} {sl_is_name sl_wrong_place sl_is_pair sl_wrong_tie sl_check_places sl_check_ties sl_Web_init ds_Web_init sl_Web_has_tie sl_Web_read sl_Web_len sl_Web_str sl_is_integerA sl_web_told sl_are_places sl_shows_barred sl_nv_parted sl_nv_long sl_is_colouring_of sl_shows_coloured sl_is_shut sl_shows_apart sl_acceptsG sl_cel_cup sl_cel_sip sl_cel_labels sl_cel_links sl_cel_order sl_cel_web sl_cel_scene sl_cel_bentL sl_cel_are_pl sl_cel_bars sl_cel_barR sl_cel_colR sl_cel_shut sl_cel_apR sl_k63_right sl_k63_law sl_g_places sl_g_ties : Array (Option Value)} {tk_LETTERS tk_MOST_PLACES tk_MOST_TIES : Tok} {dn_Web_init : Nat} {cr_read pr_places pr_ties : List Value} (X : K.In h) (G : h.Ns mainGlobals mg) (hfa : mg "law" = some (.ref fa))
    (atC_InvalidText : PySem.W.nsIn K mainGlobals "InvalidText" = some (some (.ref C_InvalidText)))
    (et : errTB K nsT msT bsT = true)
    (at_SIZES : PySem.W.nsIn K mainGlobals "SIZES" = some (some (.ref A_SIZES)))
    (gt_SIZES : gtabL K A_SIZES = some (entsOf w.params [("parted", 3), ("barred", 3), ("long", 3), ("coloured", 3), ("apart", 3)]))
    (atC : PySem.W.nsIn K mainGlobals "Web" = some (some (.ref C)))
    (pgC : PySem.W.plainGet K C Str.empty = true)
    (hdC : PySem.W.hasDictIn K C = true)
    (poC : PySem.W.plainOver K C = true)
    (saC : PySem.W.findIn K (.ref C) "__setattr__" = some (some (.builtin "object.__setattr__")))
    (mkC : PySem.W.makesIn K C = true)
    (kcC : PySem.W.keepIn K (.ref C) = true)
    (n_marks : PySem.W.findIn K (.ref C) "marks" = some none)
    (n_pairs : PySem.W.findIn K (.ref C) "pairs" = some none)
    (n_row : PySem.W.findIn K (.ref C) "row" = some none)
    (icl : PySem.W.findIn K (.ref C) "__class__" = some (some (.builtin "object.__class__")))
    (isp : PySem.W.specialIn K (.builtin "object.__class__") "__get__" = some (some (.builtin "getset_descriptor.__get__")))
    (itk : PySem.W.takesIn K (.builtin "object.__class__") = some true)
    (imr : PySem.W.mroIn K C (.type "object") = some true)
    (kcls : PySem.W.clsIn K C = some kz)
    (kty : PySem.W.typeIn K (.ref C) = some (.type "type"))
    (ks0 : PySem.W.subIn K (.type "NoneType") (.ref C) = some false)
    (ks1 : PySem.W.subIn K (.type "bool") (.ref C) = some false)
    (ks2 : PySem.W.subIn K (.type "int") (.ref C) = some false)
    (ks3 : PySem.W.subIn K (.type "str") (.ref C) = some false)
    (ks4 : PySem.W.subIn K (.type "tuple") (.ref C) = some false)
    (ks5 : PySem.W.subIn K (.type "list") (.ref C) = some false)
    (ks6 : PySem.W.subIn K (.type "dict") (.ref C) = some false)
    (at_is_name : PySem.W.nsIn K mainGlobals "is_name" = some (some (.ref f_is_name)))
    (l_is_name : K.lookup f_is_name = some ⟨oc_is_name, od_is_name, .func (PySem.W.fnOf "is_name" "is_name" (defArgs s_is_name) (defBody s_is_name) (defScope s_is_name) .none kV_is_name dc_is_name pm_is_name an_is_name cd_is_name ct_is_name), sl_is_name⟩)
    (cc_is_name : PySem.W.codeIn K cd_is_name "is_name" = true)
    (kk_is_name : PySem.W.keepIn K (.ref f_is_name) = true)
    (at_wrong_place : PySem.W.nsIn K mainGlobals "wrong_place" = some (some (.ref f_wrong_place)))
    (l_wrong_place : K.lookup f_wrong_place = some ⟨oc_wrong_place, od_wrong_place, .func (PySem.W.fnOf "wrong_place" "wrong_place" (defArgs s_wrong_place) (defBody s_wrong_place) (defScope s_wrong_place) .none kV_wrong_place dc_wrong_place pm_wrong_place an_wrong_place cd_wrong_place ct_wrong_place), sl_wrong_place⟩)
    (cc_wrong_place : PySem.W.codeIn K cd_wrong_place "wrong_place" = true)
    (kk_wrong_place : PySem.W.keepIn K (.ref f_wrong_place) = true)
    (at_is_pair : PySem.W.nsIn K mainGlobals "is_pair" = some (some (.ref f_is_pair)))
    (l_is_pair : K.lookup f_is_pair = some ⟨oc_is_pair, od_is_pair, .func (PySem.W.fnOf "is_pair" "is_pair" (defArgs s_is_pair) (defBody s_is_pair) (defScope s_is_pair) .none kV_is_pair dc_is_pair pm_is_pair an_is_pair cd_is_pair ct_is_pair), sl_is_pair⟩)
    (cc_is_pair : PySem.W.codeIn K cd_is_pair "is_pair" = true)
    (kk_is_pair : PySem.W.keepIn K (.ref f_is_pair) = true)
    (at_wrong_tie : PySem.W.nsIn K mainGlobals "wrong_tie" = some (some (.ref f_wrong_tie)))
    (l_wrong_tie : K.lookup f_wrong_tie = some ⟨oc_wrong_tie, od_wrong_tie, .func (PySem.W.fnOf "wrong_tie" "wrong_tie" (defArgs s_wrong_tie) (defBody s_wrong_tie) (defScope s_wrong_tie) .none kV_wrong_tie dc_wrong_tie pm_wrong_tie an_wrong_tie cd_wrong_tie ct_wrong_tie), sl_wrong_tie⟩)
    (cc_wrong_tie : PySem.W.codeIn K cd_wrong_tie "wrong_tie" = true)
    (kk_wrong_tie : PySem.W.keepIn K (.ref f_wrong_tie) = true)
    (at_check_places : PySem.W.nsIn K mainGlobals "check_places" = some (some (.ref f_check_places)))
    (l_check_places : K.lookup f_check_places = some ⟨oc_check_places, od_check_places, .func (PySem.W.fnOf "check_places" "check_places" (defArgs s_check_places) (defBody s_check_places) (defScope s_check_places) .none kV_check_places dc_check_places pm_check_places an_check_places cd_check_places ct_check_places), sl_check_places⟩)
    (cc_check_places : PySem.W.codeIn K cd_check_places "check_places" = true)
    (kk_check_places : PySem.W.keepIn K (.ref f_check_places) = true)
    (at_check_ties : PySem.W.nsIn K mainGlobals "check_ties" = some (some (.ref f_check_ties)))
    (l_check_ties : K.lookup f_check_ties = some ⟨oc_check_ties, od_check_ties, .func (PySem.W.fnOf "check_ties" "check_ties" (defArgs s_check_ties) (defBody s_check_ties) (defScope s_check_ties) .none kV_check_ties dc_check_ties pm_check_ties an_check_ties cd_check_ties ct_check_ties), sl_check_ties⟩)
    (cc_check_ties : PySem.W.codeIn K cd_check_ties "check_ties" = true)
    (kk_check_ties : PySem.W.keepIn K (.ref f_check_ties) = true)
    (at_Web_init : PySem.W.findIn K (.ref C) "__init__" = some (some (.ref f_Web_init)))
    (i_Web_init : PySem.W.isFn K (.ref f_Web_init) = true)
    (l_Web_init : K.lookup f_Web_init = some ⟨oc_Web_init, od_Web_init, .func (PySem.W.fnOf "__init__" "Web.__init__" (defArgs s_Web_init) (defBody s_Web_init) (defScope s_Web_init) (.ref dT_Web_init) kV_Web_init dc_Web_init pm_Web_init an_Web_init cd_Web_init ct_Web_init), sl_Web_init⟩)
    (cc_Web_init : PySem.W.codeIn K cd_Web_init "Web.__init__" = true)
    (kk_Web_init : PySem.W.keepIn K (.ref f_Web_init) = true)
    (dl_Web_init : K.lookup dT_Web_init = some ⟨do_Web_init, dd_Web_init, .seq #[dv_Web_init] dn_Web_init, ds_Web_init⟩)
    (dr_Web_init : dv_Web_init = .ref da_Web_init)
    (at_Web_has_tie : PySem.W.findIn K (.ref C) "has_tie" = some (some (.ref f_Web_has_tie)))
    (i_Web_has_tie : PySem.W.isFn K (.ref f_Web_has_tie) = true)
    (l_Web_has_tie : K.lookup f_Web_has_tie = some ⟨oc_Web_has_tie, od_Web_has_tie, .func (PySem.W.fnOf "has_tie" "Web.has_tie" (defArgs s_Web_has_tie) (defBody s_Web_has_tie) (defScope s_Web_has_tie) .none kV_Web_has_tie dc_Web_has_tie pm_Web_has_tie an_Web_has_tie cd_Web_has_tie ct_Web_has_tie), sl_Web_has_tie⟩)
    (cc_Web_has_tie : PySem.W.codeIn K cd_Web_has_tie "Web.has_tie" = true)
    (kk_Web_has_tie : PySem.W.keepIn K (.ref f_Web_has_tie) = true)
    (cm_read : PySem.W.findCls K (.ref C) (.type "type") "read" = some (.get (.builtin "classmethod.__get__") (.ref cp_read) .none (.ref C)))
    (at_Web_read : PySem.W.recIn K cp_read "classmethod" = some (.ref f_Web_read :: cr_read))
    (cf_read : PySem.W.fnIn K f_Web_read = true)
    (cd1_read : PySem.W.readsIn K C (.type "type") = true)
    (cd2_read : PySem.W.specialIn K (.ref C) "__getattribute__" = some (some (.builtin "type.__getattribute__")))
    (l_Web_read : K.lookup f_Web_read = some ⟨oc_Web_read, od_Web_read, .func (PySem.W.fnOf "read" "Web.read" (defArgs s_Web_read) (defBody s_Web_read) (defScope s_Web_read) .none kV_Web_read dc_Web_read pm_Web_read an_Web_read cd_Web_read ct_Web_read), sl_Web_read⟩)
    (cc_Web_read : PySem.W.codeIn K cd_Web_read "Web.read" = true)
    (kk_Web_read : PySem.W.keepIn K (.ref f_Web_read) = true)
    (at_Web_len : PySem.W.findIn K (.ref C) "__len__" = some (some (.ref f_Web_len)))
    (i_Web_len : PySem.W.isFn K (.ref f_Web_len) = true)
    (l_Web_len : K.lookup f_Web_len = some ⟨oc_Web_len, od_Web_len, .func (PySem.W.fnOf "__len__" "Web.__len__" (defArgs s_Web_len) (defBody s_Web_len) (defScope s_Web_len) .none kV_Web_len dc_Web_len pm_Web_len an_Web_len cd_Web_len ct_Web_len), sl_Web_len⟩)
    (cc_Web_len : PySem.W.codeIn K cd_Web_len "Web.__len__" = true)
    (kk_Web_len : PySem.W.keepIn K (.ref f_Web_len) = true)
    (at_Web_str : PySem.W.findIn K (.ref C) "__str__" = some (some (.ref f_Web_str)))
    (i_Web_str : PySem.W.isFn K (.ref f_Web_str) = true)
    (l_Web_str : K.lookup f_Web_str = some ⟨oc_Web_str, od_Web_str, .func (PySem.W.fnOf "__str__" "Web.__str__" (defArgs s_Web_str) (defBody s_Web_str) (defScope s_Web_str) .none kV_Web_str dc_Web_str pm_Web_str an_Web_str cd_Web_str ct_Web_str), sl_Web_str⟩)
    (cc_Web_str : PySem.W.codeIn K cd_Web_str "Web.__str__" = true)
    (kk_Web_str : PySem.W.keepIn K (.ref f_Web_str) = true)
    (at_is_integerA : PySem.W.nsIn K mainGlobals "is_integer" = some (some (.ref f_is_integerA)))
    (l_is_integerA : K.lookup f_is_integerA = some ⟨oc_is_integerA, od_is_integerA, .func (PySem.W.fnOf "is_integer" "is_integer" (defArgs s_is_integerA) (defBody s_is_integerA) (defScope s_is_integerA) .none kV_is_integerA dc_is_integerA pm_is_integerA an_is_integerA cd_is_integerA ct_is_integerA), sl_is_integerA⟩)
    (cc_is_integerA : PySem.W.codeIn K cd_is_integerA "is_integer" = true)
    (kk_is_integerA : PySem.W.keepIn K (.ref f_is_integerA) = true)
    (at_web_told : PySem.W.nsIn K mainGlobals "web_told" = some (some (.ref f_web_told)))
    (l_web_told : K.lookup f_web_told = some ⟨oc_web_told, od_web_told, .func (PySem.W.fnOf "web_told" "web_told" (defArgs s_web_told) (defBody s_web_told) (defScope s_web_told) .none kV_web_told dc_web_told pm_web_told an_web_told cd_web_told ct_web_told), sl_web_told⟩)
    (cc_web_told : PySem.W.codeIn K cd_web_told "web_told" = true)
    (kk_web_told : PySem.W.keepIn K (.ref f_web_told) = true)
    (at_are_places : PySem.W.nsIn K mainGlobals "are_places" = some (some (.ref f_are_places)))
    (l_are_places : K.lookup f_are_places = some ⟨oc_are_places, od_are_places, .func (PySem.W.fnOf "are_places" "are_places" (defArgs s_are_places) (defBody s_are_places) (defScope s_are_places) .none kV_are_places dc_are_places pm_are_places an_are_places cd_are_places ct_are_places), sl_are_places⟩)
    (cc_are_places : PySem.W.codeIn K cd_are_places "are_places" = true)
    (kk_are_places : PySem.W.keepIn K (.ref f_are_places) = true)
    (at_shows_barred : PySem.W.nsIn K mainGlobals "shows_barred" = some (some (.ref f_shows_barred)))
    (l_shows_barred : K.lookup f_shows_barred = some ⟨oc_shows_barred, od_shows_barred, .func (PySem.W.fnOf "shows_barred" "shows_barred" (defArgs s_shows_barred) (defBody s_shows_barred) (defScope s_shows_barred) .none kV_shows_barred dc_shows_barred pm_shows_barred an_shows_barred cd_shows_barred ct_shows_barred), sl_shows_barred⟩)
    (cc_shows_barred : PySem.W.codeIn K cd_shows_barred "shows_barred" = true)
    (kk_shows_barred : PySem.W.keepIn K (.ref f_shows_barred) = true)
    (at_nv_parted : PySem.W.nsIn K mainGlobals "shows_parted" = some (some (.ref f_nv_parted)))
    (l_nv_parted : K.lookup f_nv_parted = some ⟨oc_nv_parted, od_nv_parted, .func (PySem.W.fnOf "shows_parted" "shows_parted" (defArgs s_nv_parted) (defBody s_nv_parted) (defScope s_nv_parted) .none kV_nv_parted dc_nv_parted pm_nv_parted an_nv_parted cd_nv_parted ct_nv_parted), sl_nv_parted⟩)
    (cc_nv_parted : PySem.W.codeIn K cd_nv_parted "shows_parted" = true)
    (kk_nv_parted : PySem.W.keepIn K (.ref f_nv_parted) = true)
    (at_nv_long : PySem.W.nsIn K mainGlobals "shows_long" = some (some (.ref f_nv_long)))
    (l_nv_long : K.lookup f_nv_long = some ⟨oc_nv_long, od_nv_long, .func (PySem.W.fnOf "shows_long" "shows_long" (defArgs s_nv_long) (defBody s_nv_long) (defScope s_nv_long) .none kV_nv_long dc_nv_long pm_nv_long an_nv_long cd_nv_long ct_nv_long), sl_nv_long⟩)
    (cc_nv_long : PySem.W.codeIn K cd_nv_long "shows_long" = true)
    (kk_nv_long : PySem.W.keepIn K (.ref f_nv_long) = true)
    (at_is_colouring_of : PySem.W.nsIn K mainGlobals "is_colouring_of" = some (some (.ref f_is_colouring_of)))
    (l_is_colouring_of : K.lookup f_is_colouring_of = some ⟨oc_is_colouring_of, od_is_colouring_of, .func (PySem.W.fnOf "is_colouring_of" "is_colouring_of" (defArgs s_is_colouring_of) (defBody s_is_colouring_of) (defScope s_is_colouring_of) .none kV_is_colouring_of dc_is_colouring_of pm_is_colouring_of an_is_colouring_of cd_is_colouring_of ct_is_colouring_of), sl_is_colouring_of⟩)
    (cc_is_colouring_of : PySem.W.codeIn K cd_is_colouring_of "is_colouring_of" = true)
    (kk_is_colouring_of : PySem.W.keepIn K (.ref f_is_colouring_of) = true)
    (at_shows_coloured : PySem.W.nsIn K mainGlobals "shows_coloured" = some (some (.ref f_shows_coloured)))
    (l_shows_coloured : K.lookup f_shows_coloured = some ⟨oc_shows_coloured, od_shows_coloured, .func (PySem.W.fnOf "shows_coloured" "shows_coloured" (defArgs s_shows_coloured) (defBody s_shows_coloured) (defScope s_shows_coloured) .none kV_shows_coloured dc_shows_coloured pm_shows_coloured an_shows_coloured cd_shows_coloured ct_shows_coloured), sl_shows_coloured⟩)
    (cc_shows_coloured : PySem.W.codeIn K cd_shows_coloured "shows_coloured" = true)
    (kk_shows_coloured : PySem.W.keepIn K (.ref f_shows_coloured) = true)
    (at_is_shut : PySem.W.nsIn K mainGlobals "is_shut" = some (some (.ref f_is_shut)))
    (l_is_shut : K.lookup f_is_shut = some ⟨oc_is_shut, od_is_shut, .func (PySem.W.fnOf "is_shut" "is_shut" (defArgs s_is_shut) (defBody s_is_shut) (defScope s_is_shut) .none kV_is_shut dc_is_shut pm_is_shut an_is_shut cd_is_shut ct_is_shut), sl_is_shut⟩)
    (cc_is_shut : PySem.W.codeIn K cd_is_shut "is_shut" = true)
    (kk_is_shut : PySem.W.keepIn K (.ref f_is_shut) = true)
    (at_shows_apart : PySem.W.nsIn K mainGlobals "shows_apart" = some (some (.ref f_shows_apart)))
    (l_shows_apart : K.lookup f_shows_apart = some ⟨oc_shows_apart, od_shows_apart, .func (PySem.W.fnOf "shows_apart" "shows_apart" (defArgs s_shows_apart) (defBody s_shows_apart) (defScope s_shows_apart) .none kV_shows_apart dc_shows_apart pm_shows_apart an_shows_apart cd_shows_apart ct_shows_apart), sl_shows_apart⟩)
    (cc_shows_apart : PySem.W.codeIn K cd_shows_apart "shows_apart" = true)
    (kk_shows_apart : PySem.W.keepIn K (.ref f_shows_apart) = true)
    (at_acceptsG : PySem.W.nsIn K mainGlobals "accepts" = some (some (.ref f_acceptsG)))
    (l_acceptsG : K.lookup f_acceptsG = some ⟨oc_acceptsG, od_acceptsG, .func (PySem.W.fnOf "accepts" "accepts" (defArgs s_acceptsG) (defBody s_acceptsG) (defScope s_acceptsG) .none kV_acceptsG dc_acceptsG pm_acceptsG an_acceptsG cd_acceptsG ct_acceptsG), sl_acceptsG⟩)
    (cc_acceptsG : PySem.W.codeIn K cd_acceptsG "accepts" = true)
    (kk_acceptsG : PySem.W.keepIn K (.ref f_acceptsG) = true)
    (at_cel_cup : PySem.W.nsIn K mainGlobals "_law_cup" = some (some (.ref f_cel_cup)))
    (l_cel_cup : K.lookup f_cel_cup = some ⟨oc_cel_cup, od_cel_cup, .func (PySem.W.fnOf "_law_cup" "_law_cup" (defArgs s_cel_cup) (defBody s_cel_cup) (defScope s_cel_cup) .none kV_cel_cup dc_cel_cup pm_cel_cup an_cel_cup cd_cel_cup ct_cel_cup), sl_cel_cup⟩)
    (cc_cel_cup : PySem.W.codeIn K cd_cel_cup "_law_cup" = true)
    (kk_cel_cup : PySem.W.keepIn K (.ref f_cel_cup) = true)
    (at_cel_sip : PySem.W.nsIn K mainGlobals "_law_sip" = some (some (.ref f_cel_sip)))
    (l_cel_sip : K.lookup f_cel_sip = some ⟨oc_cel_sip, od_cel_sip, .func (PySem.W.fnOf "_law_sip" "_law_sip" (defArgs s_cel_sip) (defBody s_cel_sip) (defScope s_cel_sip) .none kV_cel_sip dc_cel_sip pm_cel_sip an_cel_sip cd_cel_sip ct_cel_sip), sl_cel_sip⟩)
    (cc_cel_sip : PySem.W.codeIn K cd_cel_sip "_law_sip" = true)
    (kk_cel_sip : PySem.W.keepIn K (.ref f_cel_sip) = true)
    (at_cel_labels : PySem.W.nsIn K mainGlobals "_law_labels" = some (some (.ref f_cel_labels)))
    (l_cel_labels : K.lookup f_cel_labels = some ⟨oc_cel_labels, od_cel_labels, .func (PySem.W.fnOf "_law_labels" "_law_labels" (defArgs s_cel_labels) (defBody s_cel_labels) (defScope s_cel_labels) .none kV_cel_labels dc_cel_labels pm_cel_labels an_cel_labels cd_cel_labels ct_cel_labels), sl_cel_labels⟩)
    (cc_cel_labels : PySem.W.codeIn K cd_cel_labels "_law_labels" = true)
    (kk_cel_labels : PySem.W.keepIn K (.ref f_cel_labels) = true)
    (at_cel_links : PySem.W.nsIn K mainGlobals "_law_links" = some (some (.ref f_cel_links)))
    (l_cel_links : K.lookup f_cel_links = some ⟨oc_cel_links, od_cel_links, .func (PySem.W.fnOf "_law_links" "_law_links" (defArgs s_cel_links) (defBody s_cel_links) (defScope s_cel_links) .none kV_cel_links dc_cel_links pm_cel_links an_cel_links cd_cel_links ct_cel_links), sl_cel_links⟩)
    (cc_cel_links : PySem.W.codeIn K cd_cel_links "_law_links" = true)
    (kk_cel_links : PySem.W.keepIn K (.ref f_cel_links) = true)
    (at_cel_order : PySem.W.nsIn K mainGlobals "_law_order" = some (some (.ref f_cel_order)))
    (l_cel_order : K.lookup f_cel_order = some ⟨oc_cel_order, od_cel_order, .func (PySem.W.fnOf "_law_order" "_law_order" (defArgs s_cel_order) (defBody s_cel_order) (defScope s_cel_order) .none kV_cel_order dc_cel_order pm_cel_order an_cel_order cd_cel_order ct_cel_order), sl_cel_order⟩)
    (cc_cel_order : PySem.W.codeIn K cd_cel_order "_law_order" = true)
    (kk_cel_order : PySem.W.keepIn K (.ref f_cel_order) = true)
    (at_cel_web : PySem.W.nsIn K mainGlobals "_law_web" = some (some (.ref f_cel_web)))
    (l_cel_web : K.lookup f_cel_web = some ⟨oc_cel_web, od_cel_web, .func (PySem.W.fnOf "_law_web" "_law_web" (defArgs s_cel_web) (defBody s_cel_web) (defScope s_cel_web) .none kV_cel_web dc_cel_web pm_cel_web an_cel_web cd_cel_web ct_cel_web), sl_cel_web⟩)
    (cc_cel_web : PySem.W.codeIn K cd_cel_web "_law_web" = true)
    (kk_cel_web : PySem.W.keepIn K (.ref f_cel_web) = true)
    (at_cel_scene : PySem.W.nsIn K mainGlobals "_law_scene" = some (some (.ref f_cel_scene)))
    (l_cel_scene : K.lookup f_cel_scene = some ⟨oc_cel_scene, od_cel_scene, .func (PySem.W.fnOf "_law_scene" "_law_scene" (defArgs s_cel_scene) (defBody s_cel_scene) (defScope s_cel_scene) .none kV_cel_scene dc_cel_scene pm_cel_scene an_cel_scene cd_cel_scene ct_cel_scene), sl_cel_scene⟩)
    (cc_cel_scene : PySem.W.codeIn K cd_cel_scene "_law_scene" = true)
    (kk_cel_scene : PySem.W.keepIn K (.ref f_cel_scene) = true)
    (at_cel_bentL : PySem.W.nsIn K mainGlobals "_law_bent_lines" = some (some (.ref f_cel_bentL)))
    (l_cel_bentL : K.lookup f_cel_bentL = some ⟨oc_cel_bentL, od_cel_bentL, .func (PySem.W.fnOf "_law_bent_lines" "_law_bent_lines" (defArgs s_cel_bentL) (defBody s_cel_bentL) (defScope s_cel_bentL) .none kV_cel_bentL dc_cel_bentL pm_cel_bentL an_cel_bentL cd_cel_bentL ct_cel_bentL), sl_cel_bentL⟩)
    (cc_cel_bentL : PySem.W.codeIn K cd_cel_bentL "_law_bent_lines" = true)
    (kk_cel_bentL : PySem.W.keepIn K (.ref f_cel_bentL) = true)
    (at_cel_are_pl : PySem.W.nsIn K mainGlobals "_law_are_places" = some (some (.ref f_cel_are_pl)))
    (l_cel_are_pl : K.lookup f_cel_are_pl = some ⟨oc_cel_are_pl, od_cel_are_pl, .func (PySem.W.fnOf "_law_are_places" "_law_are_places" (defArgs s_cel_are_pl) (defBody s_cel_are_pl) (defScope s_cel_are_pl) .none kV_cel_are_pl dc_cel_are_pl pm_cel_are_pl an_cel_are_pl cd_cel_are_pl ct_cel_are_pl), sl_cel_are_pl⟩)
    (cc_cel_are_pl : PySem.W.codeIn K cd_cel_are_pl "_law_are_places" = true)
    (kk_cel_are_pl : PySem.W.keepIn K (.ref f_cel_are_pl) = true)
    (at_cel_bars : PySem.W.nsIn K mainGlobals "_law_bars" = some (some (.ref f_cel_bars)))
    (l_cel_bars : K.lookup f_cel_bars = some ⟨oc_cel_bars, od_cel_bars, .func (PySem.W.fnOf "_law_bars" "_law_bars" (defArgs s_cel_bars) (defBody s_cel_bars) (defScope s_cel_bars) .none kV_cel_bars dc_cel_bars pm_cel_bars an_cel_bars cd_cel_bars ct_cel_bars), sl_cel_bars⟩)
    (cc_cel_bars : PySem.W.codeIn K cd_cel_bars "_law_bars" = true)
    (kk_cel_bars : PySem.W.keepIn K (.ref f_cel_bars) = true)
    (at_cel_barR : PySem.W.nsIn K mainGlobals "_law_barred_right" = some (some (.ref f_cel_barR)))
    (l_cel_barR : K.lookup f_cel_barR = some ⟨oc_cel_barR, od_cel_barR, .func (PySem.W.fnOf "_law_barred_right" "_law_barred_right" (defArgs s_cel_barR) (defBody s_cel_barR) (defScope s_cel_barR) .none kV_cel_barR dc_cel_barR pm_cel_barR an_cel_barR cd_cel_barR ct_cel_barR), sl_cel_barR⟩)
    (cc_cel_barR : PySem.W.codeIn K cd_cel_barR "_law_barred_right" = true)
    (kk_cel_barR : PySem.W.keepIn K (.ref f_cel_barR) = true)
    (at_cel_colR : PySem.W.nsIn K mainGlobals "_law_coloured_right" = some (some (.ref f_cel_colR)))
    (l_cel_colR : K.lookup f_cel_colR = some ⟨oc_cel_colR, od_cel_colR, .func (PySem.W.fnOf "_law_coloured_right" "_law_coloured_right" (defArgs s_cel_colR) (defBody s_cel_colR) (defScope s_cel_colR) .none kV_cel_colR dc_cel_colR pm_cel_colR an_cel_colR cd_cel_colR ct_cel_colR), sl_cel_colR⟩)
    (cc_cel_colR : PySem.W.codeIn K cd_cel_colR "_law_coloured_right" = true)
    (kk_cel_colR : PySem.W.keepIn K (.ref f_cel_colR) = true)
    (at_cel_shut : PySem.W.nsIn K mainGlobals "_law_shut" = some (some (.ref f_cel_shut)))
    (l_cel_shut : K.lookup f_cel_shut = some ⟨oc_cel_shut, od_cel_shut, .func (PySem.W.fnOf "_law_shut" "_law_shut" (defArgs s_cel_shut) (defBody s_cel_shut) (defScope s_cel_shut) .none kV_cel_shut dc_cel_shut pm_cel_shut an_cel_shut cd_cel_shut ct_cel_shut), sl_cel_shut⟩)
    (cc_cel_shut : PySem.W.codeIn K cd_cel_shut "_law_shut" = true)
    (kk_cel_shut : PySem.W.keepIn K (.ref f_cel_shut) = true)
    (at_cel_apR : PySem.W.nsIn K mainGlobals "_law_apart_right" = some (some (.ref f_cel_apR)))
    (l_cel_apR : K.lookup f_cel_apR = some ⟨oc_cel_apR, od_cel_apR, .func (PySem.W.fnOf "_law_apart_right" "_law_apart_right" (defArgs s_cel_apR) (defBody s_cel_apR) (defScope s_cel_apR) .none kV_cel_apR dc_cel_apR pm_cel_apR an_cel_apR cd_cel_apR ct_cel_apR), sl_cel_apR⟩)
    (cc_cel_apR : PySem.W.codeIn K cd_cel_apR "_law_apart_right" = true)
    (kk_cel_apR : PySem.W.keepIn K (.ref f_cel_apR) = true)
    (at_k63_right : PySem.W.nsIn K mainGlobals "_law_right" = some (some (.ref f_k63_right)))
    (l_k63_right : K.lookup f_k63_right = some ⟨oc_k63_right, od_k63_right, .func (PySem.W.fnOf "_law_right" "_law_right" (defArgs s_k63_right) (defBody s_k63_right) (defScope s_k63_right) .none kV_k63_right dc_k63_right pm_k63_right an_k63_right cd_k63_right ct_k63_right), sl_k63_right⟩)
    (cc_k63_right : PySem.W.codeIn K cd_k63_right "_law_right" = true)
    (kk_k63_right : PySem.W.keepIn K (.ref f_k63_right) = true)
    (at_k63_law : PySem.W.nsIn K mainGlobals "law" = some (some (.ref f_k63_law)))
    (l_k63_law : K.lookup f_k63_law = some ⟨oc_k63_law, od_k63_law, .func (PySem.W.fnOf "law" "law" (defArgs s_k63_law) (defBody s_k63_law) (defScope s_k63_law) .none kV_k63_law dc_k63_law pm_k63_law an_k63_law cd_k63_law ct_k63_law), sl_k63_law⟩)
    (cc_k63_law : PySem.W.codeIn K cd_k63_law "law" = true)
    (kk_k63_law : PySem.W.keepIn K (.ref f_k63_law) = true)
    (pt_places : PySem.W.findIn K (.ref C) "places" = some (some (.ref pa_places)))
    (at_g_places : PySem.W.recIn K pa_places "property" = some (.ref f_g_places :: pr_places))
    (pg_places : PySem.W.specialIn K (.ref pa_places) "__get__" = some (some (.builtin "property.__get__")))
    (pk_places : PySem.W.takesIn K (.ref pa_places) = some true)
    (l_g_places : K.lookup f_g_places = some ⟨oc_g_places, od_g_places, .func (PySem.W.fnOf "places" "Web.places" (defArgs s_g_places) (defBody s_g_places) (defScope s_g_places) .none kV_g_places dc_g_places pm_g_places an_g_places cd_g_places ct_g_places), sl_g_places⟩)
    (cc_g_places : PySem.W.codeIn K cd_g_places "Web.places" = true)
    (kk_g_places : PySem.W.keepIn K (.ref f_g_places) = true)
    (pt_ties : PySem.W.findIn K (.ref C) "ties" = some (some (.ref pa_ties)))
    (at_g_ties : PySem.W.recIn K pa_ties "property" = some (.ref f_g_ties :: pr_ties))
    (pg_ties : PySem.W.specialIn K (.ref pa_ties) "__get__" = some (some (.builtin "property.__get__")))
    (pk_ties : PySem.W.takesIn K (.ref pa_ties) = some true)
    (l_g_ties : K.lookup f_g_ties = some ⟨oc_g_ties, od_g_ties, .func (PySem.W.fnOf "ties" "Web.ties" (defArgs s_g_ties) (defBody s_g_ties) (defScope s_g_ties) .none kV_g_ties dc_g_ties pm_g_ties an_g_ties cd_g_ties ct_g_ties), sl_g_ties⟩)
    (cc_g_ties : PySem.W.codeIn K cd_g_ties "Web.ties" = true)
    (kk_g_ties : PySem.W.keepIn K (.ref f_g_ties) = true)
    (at_LETTERS : PySem.W.nsIn K mainGlobals "LETTERS" = some (some (.str "abcdefghijklmnopqrstuvwxyz" tk_LETTERS)))
    (at_MOST_PLACES : PySem.W.nsIn K mainGlobals "MOST_PLACES" = some (some (.int 40 tk_MOST_PLACES)))
    (at_MOST_TIES : PySem.W.nsIn K mainGlobals "MOST_TIES" = some (some (.int 200 tk_MOST_TIES)))
    (at_abs : PySem.W.nsIn K mainGlobals "abs" = some none)
    (at_all : PySem.W.nsIn K mainGlobals "all" = some none)
    (at_bool : PySem.W.nsIn K mainGlobals "bool" = some none)
    (at_divmod : PySem.W.nsIn K mainGlobals "divmod" = some none)
    (at_enumerate : PySem.W.nsIn K mainGlobals "enumerate" = some none)
    (at_int : PySem.W.nsIn K mainGlobals "int" = some none)
    (at_isinstance : PySem.W.nsIn K mainGlobals "isinstance" = some none)
    (at_len : PySem.W.nsIn K mainGlobals "len" = some none)
    (at_list : PySem.W.nsIn K mainGlobals "list" = some none)
    (at_max : PySem.W.nsIn K mainGlobals "max" = some none)
    (at_min : PySem.W.nsIn K mainGlobals "min" = some none)
    (at_range : PySem.W.nsIn K mainGlobals "range" = some none)
    (at_repr : PySem.W.nsIn K mainGlobals "repr" = some none)
    (at_set : PySem.W.nsIn K mainGlobals "set" = some none)
    (at_sorted : PySem.W.nsIn K mainGlobals "sorted" = some none)
    (at_str : PySem.W.nsIn K mainGlobals "str" = some none)
    (at_tuple : PySem.W.nsIn K mainGlobals "tuple" = some none)
    (at_zip : PySem.W.nsIn K mainGlobals "zip" = some none)
    : ∃ fd : FuncData, (∀ (s : Shared) (v : Value), BindsTo s fd ⟨[v], []⟩ [("_law_cells", v)]) ∧ ∀ base : Heap, K.In base → base.Ns mainGlobals mg → FnD l.prog w K mg base 11 fa fd ["_law_cells"] (LawSp 63) := by
  have e : fa = f_k63_law := by
    have e := hfa.symm.trans (PySem.W.mg_of X G at_k63_law)
    cases e
    rfl
  let T : Txt l.prog w K mg := { a_InvalidText := C_InvalidText, m_InvalidText := PySem.W.mg_of X G atC_InvalidText, n_InvalidText := atC_InvalidText, et := errT_of et, a_SIZES := A_SIZES, m_SIZES := PySem.W.mg_of X G at_SIZES, gt_SIZES := gtab_of gt_SIZES, a_Web := C, m_Web := PySem.W.mg_of X G atC, c_Web := ⟨pgC, hdC, poC, saC⟩, n_marks := n_marks, n_pairs := n_pairs, n_row := n_row, ins_Web := ⟨⟨pgC, hdC, poC, saC⟩, icl, isp, itk, imr⟩, kit0 := kit0_of kcls kty ks0 ks1 ks2 ks3 ks4 ks5 ks6, kit1 := kit1_of C, a_is_name := f_is_name, d_is_name := _, F_is_name := fun_mk (st := s_is_name) l_is_name cc_is_name kk_is_name, m_is_name := PySem.W.mg_of X G at_is_name, a_wrong_place := f_wrong_place, d_wrong_place := _, F_wrong_place := fun_mk (st := s_wrong_place) l_wrong_place cc_wrong_place kk_wrong_place, m_wrong_place := PySem.W.mg_of X G at_wrong_place, a_is_pair := f_is_pair, d_is_pair := _, F_is_pair := fun_mk (st := s_is_pair) l_is_pair cc_is_pair kk_is_pair, m_is_pair := PySem.W.mg_of X G at_is_pair, a_wrong_tie := f_wrong_tie, d_wrong_tie := _, F_wrong_tie := fun_mk (st := s_wrong_tie) l_wrong_tie cc_wrong_tie kk_wrong_tie, m_wrong_tie := PySem.W.mg_of X G at_wrong_tie, a_check_places := f_check_places, d_check_places := _, F_check_places := fun_mk (st := s_check_places) l_check_places cc_check_places kk_check_places, m_check_places := PySem.W.mg_of X G at_check_places, a_check_ties := f_check_ties, d_check_ties := _, F_check_ties := fun_mk (st := s_check_ties) l_check_ties cc_check_ties kk_check_ties, m_check_ties := PySem.W.mg_of X G at_check_ties, a_Web_init := f_Web_init, d_Web_init := _, v_Web_init := .ref da_Web_init, F_Web_init := ⟨⟨_, _, _, _, _, _, _, _, _, _, rfl, l_Web_init, cc_Web_init, .inr ⟨by simp, _, _, [dv_Web_init], _, rfl, dl_Web_init, rfl, .cons dr_Web_init .nil⟩, .inl rfl⟩, kk_Web_init⟩, k_Web := ⟨mkC, at_Web_init, i_Web_init, kcC⟩, a_Web_has_tie := f_Web_has_tie, d_Web_has_tie := _, F_Web_has_tie := fun_mk (st := s_Web_has_tie) l_Web_has_tie cc_Web_has_tie kk_Web_has_tie, h_has_tie := ⟨at_Web_has_tie, i_Web_has_tie, kk_Web_has_tie⟩, a_Web_read := f_Web_read, d_Web_read := _, F_Web_read := fun_mk (st := s_Web_read) l_Web_read cc_Web_read kk_Web_read, r_Web := ⟨cd1_read, cd2_read⟩, ep_read := cp_read, e_read := ⟨cm_read, ⟨_, at_Web_read⟩, cf_read⟩, a_Web_len := f_Web_len, d_Web_len := _, F_Web_len := fun_mk (st := s_Web_len) l_Web_len cc_Web_len kk_Web_len, h___len__ := ⟨at_Web_len, i_Web_len, kk_Web_len⟩, a_Web_str := f_Web_str, d_Web_str := _, F_Web_str := fun_mk (st := s_Web_str) l_Web_str cc_Web_str kk_Web_str, h___str__ := ⟨at_Web_str, i_Web_str, kk_Web_str⟩, a_is_integerA := f_is_integerA, d_is_integerA := _, F_is_integerA := fun_mk (st := s_is_integerA) l_is_integerA cc_is_integerA kk_is_integerA, m_is_integerA := PySem.W.mg_of X G at_is_integerA, a_web_told := f_web_told, d_web_told := _, F_web_told := fun_mk (st := s_web_told) l_web_told cc_web_told kk_web_told, m_web_told := PySem.W.mg_of X G at_web_told, a_are_places := f_are_places, d_are_places := _, F_are_places := fun_mk (st := s_are_places) l_are_places cc_are_places kk_are_places, m_are_places := PySem.W.mg_of X G at_are_places, a_shows_barred := f_shows_barred, d_shows_barred := _, F_shows_barred := fun_mk (st := s_shows_barred) l_shows_barred cc_shows_barred kk_shows_barred, m_shows_barred := PySem.W.mg_of X G at_shows_barred, a_nv_parted := f_nv_parted, d_nv_parted := _, F_nv_parted := fun_mk (st := s_nv_parted) l_nv_parted cc_nv_parted kk_nv_parted, m_nv_parted := PySem.W.mg_of X G at_nv_parted, a_nv_long := f_nv_long, d_nv_long := _, F_nv_long := fun_mk (st := s_nv_long) l_nv_long cc_nv_long kk_nv_long, m_nv_long := PySem.W.mg_of X G at_nv_long, a_is_colouring_of := f_is_colouring_of, d_is_colouring_of := _, F_is_colouring_of := fun_mk (st := s_is_colouring_of) l_is_colouring_of cc_is_colouring_of kk_is_colouring_of, m_is_colouring_of := PySem.W.mg_of X G at_is_colouring_of, a_shows_coloured := f_shows_coloured, d_shows_coloured := _, F_shows_coloured := fun_mk (st := s_shows_coloured) l_shows_coloured cc_shows_coloured kk_shows_coloured, m_shows_coloured := PySem.W.mg_of X G at_shows_coloured, a_is_shut := f_is_shut, d_is_shut := _, F_is_shut := fun_mk (st := s_is_shut) l_is_shut cc_is_shut kk_is_shut, m_is_shut := PySem.W.mg_of X G at_is_shut, a_shows_apart := f_shows_apart, d_shows_apart := _, F_shows_apart := fun_mk (st := s_shows_apart) l_shows_apart cc_shows_apart kk_shows_apart, m_shows_apart := PySem.W.mg_of X G at_shows_apart, a_acceptsG := f_acceptsG, d_acceptsG := _, F_acceptsG := fun_mk (st := s_acceptsG) l_acceptsG cc_acceptsG kk_acceptsG, m_acceptsG := PySem.W.mg_of X G at_acceptsG, a_cel_cup := f_cel_cup, d_cel_cup := _, F_cel_cup := fun_mk (st := s_cel_cup) l_cel_cup cc_cel_cup kk_cel_cup, m_cel_cup := PySem.W.mg_of X G at_cel_cup, a_cel_sip := f_cel_sip, d_cel_sip := _, F_cel_sip := fun_mk (st := s_cel_sip) l_cel_sip cc_cel_sip kk_cel_sip, m_cel_sip := PySem.W.mg_of X G at_cel_sip, a_cel_labels := f_cel_labels, d_cel_labels := _, F_cel_labels := fun_mk (st := s_cel_labels) l_cel_labels cc_cel_labels kk_cel_labels, m_cel_labels := PySem.W.mg_of X G at_cel_labels, a_cel_links := f_cel_links, d_cel_links := _, F_cel_links := fun_mk (st := s_cel_links) l_cel_links cc_cel_links kk_cel_links, m_cel_links := PySem.W.mg_of X G at_cel_links, a_cel_order := f_cel_order, d_cel_order := _, F_cel_order := fun_mk (st := s_cel_order) l_cel_order cc_cel_order kk_cel_order, m_cel_order := PySem.W.mg_of X G at_cel_order, a_cel_web := f_cel_web, d_cel_web := _, F_cel_web := fun_mk (st := s_cel_web) l_cel_web cc_cel_web kk_cel_web, m_cel_web := PySem.W.mg_of X G at_cel_web, a_cel_scene := f_cel_scene, d_cel_scene := _, F_cel_scene := fun_mk (st := s_cel_scene) l_cel_scene cc_cel_scene kk_cel_scene, m_cel_scene := PySem.W.mg_of X G at_cel_scene, a_cel_bentL := f_cel_bentL, d_cel_bentL := _, F_cel_bentL := fun_mk (st := s_cel_bentL) l_cel_bentL cc_cel_bentL kk_cel_bentL, m_cel_bentL := PySem.W.mg_of X G at_cel_bentL, a_cel_are_pl := f_cel_are_pl, d_cel_are_pl := _, F_cel_are_pl := fun_mk (st := s_cel_are_pl) l_cel_are_pl cc_cel_are_pl kk_cel_are_pl, m_cel_are_pl := PySem.W.mg_of X G at_cel_are_pl, a_cel_bars := f_cel_bars, d_cel_bars := _, F_cel_bars := fun_mk (st := s_cel_bars) l_cel_bars cc_cel_bars kk_cel_bars, m_cel_bars := PySem.W.mg_of X G at_cel_bars, a_cel_barR := f_cel_barR, d_cel_barR := _, F_cel_barR := fun_mk (st := s_cel_barR) l_cel_barR cc_cel_barR kk_cel_barR, m_cel_barR := PySem.W.mg_of X G at_cel_barR, a_cel_colR := f_cel_colR, d_cel_colR := _, F_cel_colR := fun_mk (st := s_cel_colR) l_cel_colR cc_cel_colR kk_cel_colR, m_cel_colR := PySem.W.mg_of X G at_cel_colR, a_cel_shut := f_cel_shut, d_cel_shut := _, F_cel_shut := fun_mk (st := s_cel_shut) l_cel_shut cc_cel_shut kk_cel_shut, m_cel_shut := PySem.W.mg_of X G at_cel_shut, a_cel_apR := f_cel_apR, d_cel_apR := _, F_cel_apR := fun_mk (st := s_cel_apR) l_cel_apR cc_cel_apR kk_cel_apR, m_cel_apR := PySem.W.mg_of X G at_cel_apR, a_k63_right := f_k63_right, d_k63_right := _, F_k63_right := fun_mk (st := s_k63_right) l_k63_right cc_k63_right kk_k63_right, m_k63_right := PySem.W.mg_of X G at_k63_right, a_k63_law := f_k63_law, d_k63_law := _, F_k63_law := fun_mk (st := s_k63_law) l_k63_law cc_k63_law kk_k63_law, m_k63_law := PySem.W.mg_of X G at_k63_law, a_g_places := f_g_places, d_g_places := _, F_g_places := fun_mk (st := s_g_places) l_g_places cc_g_places kk_g_places, q_places := pa_places, p_places := ⟨pt_places, pg_places, pk_places, _, at_g_places⟩, a_g_ties := f_g_ties, d_g_ties := _, F_g_ties := fun_mk (st := s_g_ties) l_g_ties cc_g_ties kk_g_ties, q_ties := pa_ties, p_ties := ⟨pt_ties, pg_ties, pk_ties, _, at_g_ties⟩, t_LETTERS := tk_LETTERS, m_LETTERS := PySem.W.mg_of X G at_LETTERS, t_MOST_PLACES := tk_MOST_PLACES, m_MOST_PLACES := PySem.W.mg_of X G at_MOST_PLACES, t_MOST_TIES := tk_MOST_TIES, m_MOST_TIES := PySem.W.mg_of X G at_MOST_TIES, z_abs := PySem.W.mg_none_of X G at_abs, z_all := PySem.W.mg_none_of X G at_all, z_bool := PySem.W.mg_none_of X G at_bool, z_divmod := PySem.W.mg_none_of X G at_divmod, z_enumerate := PySem.W.mg_none_of X G at_enumerate, z_int := PySem.W.mg_none_of X G at_int, z_isinstance := PySem.W.mg_none_of X G at_isinstance, z_len := PySem.W.mg_none_of X G at_len, z_list := PySem.W.mg_none_of X G at_list, z_max := PySem.W.mg_none_of X G at_max, z_min := PySem.W.mg_none_of X G at_min, z_range := PySem.W.mg_none_of X G at_range, z_repr := PySem.W.mg_none_of X G at_repr, z_set := PySem.W.mg_none_of X G at_set, z_sorted := PySem.W.mg_none_of X G at_sorted, z_str := PySem.W.mg_none_of X G at_str, z_tuple := PySem.W.mg_none_of X G at_tuple, z_zip := PySem.W.mg_none_of X G at_zip }
  rw [e]
  exact ⟨T.d_k63_law, fun s v => .of_eq rfl, fun base _ _ => ok_k63_law T⟩
end L2.DL
open PySem PySem.W PyProof.Rows
set_option maxRecDepth 100000 in
set_option maxHeartbeats 0 in
theorem PySem.Challenge.cw_fewroads_k63_caps_colours_apart_judged_holds : PySem.Challenge.rw_fewroads_k63_caps_colours_apart_judged.Holds := by
  w_on; o_law; k_head; (case hw => w_witness2)
  k_fill
  refine L2.DL.walk_G (l := PySem.Challenge.rw_fewroads_k63_caps_colours_apart_judged) (n := 63) (k := 11) (x := "_law_cells") rfl (by decide) rfl ⟨rfl, by decide, by decide⟩ (fun w h Y => PySem.W.kIn_of Y) ?F
  case F =>
    intro w mg fa h KX G hmg
    refine' L2.DL.all_mk (l := PySem.Challenge.rw_fewroads_k63_caps_colours_apart_judged) (w := w) KX G hmg ?atC_InvalidText ?et ?at_SIZES ?gt_SIZES ?atC ?pgC ?hdC ?poC ?saC ?mkC ?kcC ?n_marks ?n_pairs ?n_row ?icl ?isp ?itk ?imr ?kcls ?kty ?ks0 ?ks1 ?ks2 ?ks3 ?ks4 ?ks5 ?ks6 ?at_is_name ?l_is_name ?cc_is_name ?kk_is_name ?at_wrong_place ?l_wrong_place ?cc_wrong_place ?kk_wrong_place ?at_is_pair ?l_is_pair ?cc_is_pair ?kk_is_pair ?at_wrong_tie ?l_wrong_tie ?cc_wrong_tie ?kk_wrong_tie ?at_check_places ?l_check_places ?cc_check_places ?kk_check_places ?at_check_ties ?l_check_ties ?cc_check_ties ?kk_check_ties ?at_Web_init ?i_Web_init ?l_Web_init ?cc_Web_init ?kk_Web_init ?dl_Web_init ?dr_Web_init ?at_Web_has_tie ?i_Web_has_tie ?l_Web_has_tie ?cc_Web_has_tie ?kk_Web_has_tie ?cm_read ?at_Web_read ?cf_read ?cd1_read ?cd2_read ?l_Web_read ?cc_Web_read ?kk_Web_read ?at_Web_len ?i_Web_len ?l_Web_len ?cc_Web_len ?kk_Web_len ?at_Web_str ?i_Web_str ?l_Web_str ?cc_Web_str ?kk_Web_str ?at_is_integerA ?l_is_integerA ?cc_is_integerA ?kk_is_integerA ?at_web_told ?l_web_told ?cc_web_told ?kk_web_told ?at_are_places ?l_are_places ?cc_are_places ?kk_are_places ?at_shows_barred ?l_shows_barred ?cc_shows_barred ?kk_shows_barred ?at_nv_parted ?l_nv_parted ?cc_nv_parted ?kk_nv_parted ?at_nv_long ?l_nv_long ?cc_nv_long ?kk_nv_long ?at_is_colouring_of ?l_is_colouring_of ?cc_is_colouring_of ?kk_is_colouring_of ?at_shows_coloured ?l_shows_coloured ?cc_shows_coloured ?kk_shows_coloured ?at_is_shut ?l_is_shut ?cc_is_shut ?kk_is_shut ?at_shows_apart ?l_shows_apart ?cc_shows_apart ?kk_shows_apart ?at_acceptsG ?l_acceptsG ?cc_acceptsG ?kk_acceptsG ?at_cel_cup ?l_cel_cup ?cc_cel_cup ?kk_cel_cup ?at_cel_sip ?l_cel_sip ?cc_cel_sip ?kk_cel_sip ?at_cel_labels ?l_cel_labels ?cc_cel_labels ?kk_cel_labels ?at_cel_links ?l_cel_links ?cc_cel_links ?kk_cel_links ?at_cel_order ?l_cel_order ?cc_cel_order ?kk_cel_order ?at_cel_web ?l_cel_web ?cc_cel_web ?kk_cel_web ?at_cel_scene ?l_cel_scene ?cc_cel_scene ?kk_cel_scene ?at_cel_bentL ?l_cel_bentL ?cc_cel_bentL ?kk_cel_bentL ?at_cel_are_pl ?l_cel_are_pl ?cc_cel_are_pl ?kk_cel_are_pl ?at_cel_bars ?l_cel_bars ?cc_cel_bars ?kk_cel_bars ?at_cel_barR ?l_cel_barR ?cc_cel_barR ?kk_cel_barR ?at_cel_colR ?l_cel_colR ?cc_cel_colR ?kk_cel_colR ?at_cel_shut ?l_cel_shut ?cc_cel_shut ?kk_cel_shut ?at_cel_apR ?l_cel_apR ?cc_cel_apR ?kk_cel_apR ?at_k63_right ?l_k63_right ?cc_k63_right ?kk_k63_right ?at_k63_law ?l_k63_law ?cc_k63_law ?kk_k63_law ?pt_places ?at_g_places ?pg_places ?pk_places ?l_g_places ?cc_g_places ?kk_g_places ?pt_ties ?at_g_ties ?pg_ties ?pk_ties ?l_g_ties ?cc_g_ties ?kk_g_ties ?at_LETTERS ?at_MOST_PLACES ?at_MOST_TIES ?at_abs ?at_all ?at_bool ?at_divmod ?at_enumerate ?at_int ?at_isinstance ?at_len ?at_list ?at_max ?at_min ?at_range ?at_repr ?at_set ?at_sorted ?at_str ?at_tuple ?at_zip
    (case atC_InvalidText => k_is)
    (case et => kernel_rfl)
    (case at_SIZES => k_is)
    (case gt_SIZES => kernel_rfl)
    (case atC => k_is)
    (case pgC => k_is)
    (case hdC => k_is)
    (case poC => k_is)
    (case saC => k_is)
    (case mkC => k_is)
    (case kcC => k_is)
    (case n_marks => k_is)
    (case n_pairs => k_is)
    (case n_row => k_is)
    (case icl => k_is)
    (case isp => k_is)
    (case itk => k_is)
    (case imr => k_is)
    (case kcls => k_is)
    (case kty => k_is)
    (case ks0 => k_is)
    (case ks1 => k_is)
    (case ks2 => k_is)
    (case ks3 => k_is)
    (case ks4 => k_is)
    (case ks5 => k_is)
    (case ks6 => k_is)
    (case at_is_name => k_is)
    (case l_is_name => k_is)
    (case cc_is_name => k_is)
    (case kk_is_name => k_is)
    (case at_wrong_place => k_is)
    (case l_wrong_place => k_is)
    (case cc_wrong_place => k_is)
    (case kk_wrong_place => k_is)
    (case at_is_pair => k_is)
    (case l_is_pair => k_is)
    (case cc_is_pair => k_is)
    (case kk_is_pair => k_is)
    (case at_wrong_tie => k_is)
    (case l_wrong_tie => k_is)
    (case cc_wrong_tie => k_is)
    (case kk_wrong_tie => k_is)
    (case at_check_places => k_is)
    (case l_check_places => k_is)
    (case cc_check_places => k_is)
    (case kk_check_places => k_is)
    (case at_check_ties => k_is)
    (case l_check_ties => k_is)
    (case cc_check_ties => k_is)
    (case kk_check_ties => k_is)
    (case at_Web_init => k_is)
    (case i_Web_init => k_is)
    (case l_Web_init => k_is)
    (case cc_Web_init => k_is)
    (case kk_Web_init => k_is)
    (case dl_Web_init => k_is)
    (case dr_Web_init => rfl)
    (case at_Web_has_tie => k_is)
    (case i_Web_has_tie => k_is)
    (case l_Web_has_tie => k_is)
    (case cc_Web_has_tie => k_is)
    (case kk_Web_has_tie => k_is)
    (case cm_read => k_is)
    (case at_Web_read => k_is)
    (case cf_read => k_is)
    (case cd1_read => k_is)
    (case cd2_read => k_is)
    (case l_Web_read => k_is)
    (case cc_Web_read => k_is)
    (case kk_Web_read => k_is)
    (case at_Web_len => k_is)
    (case i_Web_len => k_is)
    (case l_Web_len => k_is)
    (case cc_Web_len => k_is)
    (case kk_Web_len => k_is)
    (case at_Web_str => k_is)
    (case i_Web_str => k_is)
    (case l_Web_str => k_is)
    (case cc_Web_str => k_is)
    (case kk_Web_str => k_is)
    (case at_is_integerA => k_is)
    (case l_is_integerA => k_is)
    (case cc_is_integerA => k_is)
    (case kk_is_integerA => k_is)
    (case at_web_told => k_is)
    (case l_web_told => k_is)
    (case cc_web_told => k_is)
    (case kk_web_told => k_is)
    (case at_are_places => k_is)
    (case l_are_places => k_is)
    (case cc_are_places => k_is)
    (case kk_are_places => k_is)
    (case at_shows_barred => k_is)
    (case l_shows_barred => k_is)
    (case cc_shows_barred => k_is)
    (case kk_shows_barred => k_is)
    (case at_nv_parted => k_is)
    (case l_nv_parted => k_is)
    (case cc_nv_parted => k_is)
    (case kk_nv_parted => k_is)
    (case at_nv_long => k_is)
    (case l_nv_long => k_is)
    (case cc_nv_long => k_is)
    (case kk_nv_long => k_is)
    (case at_is_colouring_of => k_is)
    (case l_is_colouring_of => k_is)
    (case cc_is_colouring_of => k_is)
    (case kk_is_colouring_of => k_is)
    (case at_shows_coloured => k_is)
    (case l_shows_coloured => k_is)
    (case cc_shows_coloured => k_is)
    (case kk_shows_coloured => k_is)
    (case at_is_shut => k_is)
    (case l_is_shut => k_is)
    (case cc_is_shut => k_is)
    (case kk_is_shut => k_is)
    (case at_shows_apart => k_is)
    (case l_shows_apart => k_is)
    (case cc_shows_apart => k_is)
    (case kk_shows_apart => k_is)
    (case at_acceptsG => k_is)
    (case l_acceptsG => k_is)
    (case cc_acceptsG => k_is)
    (case kk_acceptsG => k_is)
    (case at_cel_cup => k_is)
    (case l_cel_cup => k_is)
    (case cc_cel_cup => k_is)
    (case kk_cel_cup => k_is)
    (case at_cel_sip => k_is)
    (case l_cel_sip => k_is)
    (case cc_cel_sip => k_is)
    (case kk_cel_sip => k_is)
    (case at_cel_labels => k_is)
    (case l_cel_labels => k_is)
    (case cc_cel_labels => k_is)
    (case kk_cel_labels => k_is)
    (case at_cel_links => k_is)
    (case l_cel_links => k_is)
    (case cc_cel_links => k_is)
    (case kk_cel_links => k_is)
    (case at_cel_order => k_is)
    (case l_cel_order => k_is)
    (case cc_cel_order => k_is)
    (case kk_cel_order => k_is)
    (case at_cel_web => k_is)
    (case l_cel_web => k_is)
    (case cc_cel_web => k_is)
    (case kk_cel_web => k_is)
    (case at_cel_scene => k_is)
    (case l_cel_scene => k_is)
    (case cc_cel_scene => k_is)
    (case kk_cel_scene => k_is)
    (case at_cel_bentL => k_is)
    (case l_cel_bentL => k_is)
    (case cc_cel_bentL => k_is)
    (case kk_cel_bentL => k_is)
    (case at_cel_are_pl => k_is)
    (case l_cel_are_pl => k_is)
    (case cc_cel_are_pl => k_is)
    (case kk_cel_are_pl => k_is)
    (case at_cel_bars => k_is)
    (case l_cel_bars => k_is)
    (case cc_cel_bars => k_is)
    (case kk_cel_bars => k_is)
    (case at_cel_barR => k_is)
    (case l_cel_barR => k_is)
    (case cc_cel_barR => k_is)
    (case kk_cel_barR => k_is)
    (case at_cel_colR => k_is)
    (case l_cel_colR => k_is)
    (case cc_cel_colR => k_is)
    (case kk_cel_colR => k_is)
    (case at_cel_shut => k_is)
    (case l_cel_shut => k_is)
    (case cc_cel_shut => k_is)
    (case kk_cel_shut => k_is)
    (case at_cel_apR => k_is)
    (case l_cel_apR => k_is)
    (case cc_cel_apR => k_is)
    (case kk_cel_apR => k_is)
    (case at_k63_right => k_is)
    (case l_k63_right => k_is)
    (case cc_k63_right => k_is)
    (case kk_k63_right => k_is)
    (case at_k63_law => k_is)
    (case l_k63_law => k_is)
    (case cc_k63_law => k_is)
    (case kk_k63_law => k_is)
    (case pt_places => k_is)
    (case at_g_places => k_is)
    (case pg_places => k_is)
    (case pk_places => k_is)
    (case l_g_places => k_is)
    (case cc_g_places => k_is)
    (case kk_g_places => k_is)
    (case pt_ties => k_is)
    (case at_g_ties => k_is)
    (case pg_ties => k_is)
    (case pk_ties => k_is)
    (case l_g_ties => k_is)
    (case cc_g_ties => k_is)
    (case kk_g_ties => k_is)
    (case at_LETTERS => k_is)
    (case at_MOST_PLACES => k_is)
    (case at_MOST_TIES => k_is)
    (case at_abs => k_is)
    (case at_all => k_is)
    (case at_bool => k_is)
    (case at_divmod => k_is)
    (case at_enumerate => k_is)
    (case at_int => k_is)
    (case at_isinstance => k_is)
    (case at_len => k_is)
    (case at_list => k_is)
    (case at_max => k_is)
    (case at_min => k_is)
    (case at_range => k_is)
    (case at_repr => k_is)
    (case at_set => k_is)
    (case at_sorted => k_is)
    (case at_str => k_is)
    (case at_tuple => k_is)
    (case at_zip => k_is)
