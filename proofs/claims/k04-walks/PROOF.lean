import PyProof.Rows.All
import Wide.All
import OpenK.AllK
import Wide.FinOn
import HandS.ForMost
import HandS.Set
import KE.KDictCopyH
import HandS.Style
import HandS.TupAny
import HandS.TupMul
import HandS.IsInst
import HandS.Wide
import HandS.Text
import KE.DataEq
import HandS.TupLen
import HandS.Small
import HandS.More
import HandS.SetFor
import HandS.SetBool
import HandS.SetTxtIn
import KE.SortData
import PyProof.TupleOfStr
import PyProof.ListStr
import HandS.Conv
import KE.DataFind
import KE.KDictKeyed
import KE.KDictDisplayH
import HandS.DictComp
import KE.KEqNest
import PyProof.ReprRoads
import HandS.ListItems
import KE.KDictSum
import HandS.EndBits
import HandS.Defaults
import PyProof.Rows.StrCountLaw
import PyProof.ReprLen
import PyProof.Rows.StrFit
import HandS.Head2
import HandS.HeadEnd
import HandS.HeadHook2
import PySem.Challenge.RW_sameending_k04_whole_walks
set_option Elab.async false
set_option linter.all false
set_option maxRecDepth 100000
set_option maxHeartbeats 4000000
/-! DL0: dicts whose keys are whole numbers, texts and None. -/
namespace DL
open PySem PySem.Spec PyProof.Rows L2

abbrev NK := Option Key
def nkV : NK → V
  | none => .non
  | some k => kV k
def nkIs : NK → Value → Bool
  | none, .none => true
  | none, _ => false
  | some k, v => keyIs k v
def nkL : NK → PySem.Leaf
  | none => .none
  | some (.inl i) => .num i
  | some (.inr x) => .text x
theorem nkL_inj {a b : NK} (h : nkL a = nkL b) : a = b := by
  rcases a with _ | a | a <;> rcases b with _ | b | b <;> simp [nkL] at h <;> try rfl
  · rw [h]
  · rw [h]
theorem nkL_is {k : NK} {v : Value} (h : nkIs k v = true) : PySem.Leaf.isOf (nkL k) v = true := by
  rcases k with _ | i | x
  · cases v <;> first | rfl | exact absurd h Bool.false_ne_true
  · obtain ⟨i', t, e, rfl⟩ | ⟨x, t, e, rfl⟩ := keyIs_shape (show keyIs (.inl i) v = true from h)
    · cases e
      show PySem.Leaf.isOf (.num i) (.int i t) = true
      simp [PySem.Leaf.isOf]
    · cases e
  · obtain ⟨i', t, e, rfl⟩ | ⟨x, t, e, rfl⟩ := keyIs_shape (show keyIs (.inr x) v = true from h)
    · cases e
    · cases e
      show PySem.Leaf.isOf (.text x) (.str x t) = true
      simp [PySem.Leaf.isOf, Value.isStrOf]
def nkKind (prog : Program) (w : World) : PySem.KeyKind prog w NK where
  is := nkIs
  hash := fun k => (PySem.leafKind prog w).hash (nkL k)
  inj := fun v a b ha hb => nkL_inj ((PySem.leafKind prog w).inj v _ _ (nkL_is ha) (nkL_is hb))
  byValue := fun _ v h => (PySem.leafKind prog w).byValue _ v (nkL_is h)
  pyHash := fun hv h => (PySem.leafKind prog w).pyHash (nkL_is hv) h
  eqBool := fun {A E s a b u v Q} hu hv h => (PySem.leafKind prog w).eqBool (nkL_is hu) (nkL_is hv) (by
    have e : decide (nkL a = nkL b) = decide (a = b) := by
      by_cases q : a = b
      · rw [q, decide_eq_true rfl, decide_eq_true rfl]
      · rw [decide_eq_false q, decide_eq_false fun z => q (nkL_inj z)]
    rw [e]
    exact h)
  «strs» := fun k x t v h => by
    rcases k with _ | k
    · exact absurd h Bool.false_ne_true
    · exact (mixKind prog w).strs k x t v h
theorem nk_rel {k : NK} {v : Value} (h : nkIs k v = true) : RelV (nkV k) v := by
  rcases k with _ | k
  · cases v <;> first | rfl | exact absurd h Bool.false_ne_true
  · exact relV_key (show keyIs k v = true from h)
theorem nk_is {k : NK} {v : Value} (h : RelV (nkV k) v) : nkIs k v = true := by
  rcases k with _ | i | x
  · cases (show v = Value.none from h)
    rfl
  · obtain ⟨t, rfl⟩ := (show ∃ t, v = Value.int i t from h)
    exact keyIs_int i t
  · obtain ⟨t, rfl⟩ := (show ∃ t, v = Value.str x t from h)
    exact keyIs_str x t
/-- the object o is a dict with these keys and values -/
structure DicN (P : Program) (w : World) (o : Obj) (kv : List (NK × V)) : Prop where
  ex : o.ExactDict
  dat : ∃ es ep vs, o.data = .dict es ep ∧ es.size = kv.length ∧ PySem.KeysOf (nkKind P w) es ∧ Pairs (nkKind P w) es.toList vs ∧ (vs.map (·.1)).Nodup ∧ Paired (fun (p : NK × V) (q : NK × Value) => p.1 = q.1 ∧ RelV p.2 q.2) kv vs
  few : kv.length ≤ sizeLine
end DL

/-! DL1: data over the hand layer. D: what a value is, as a tree; Dv: a value of the heap is such a tree, none of whose parts is ever written again;
own lists and dicts in slots; the readings tE, tT, tS of expressions, tests, statements by plain partial functions over environments of data. -/
namespace DL
open PySem PySem.Spec PyProof.Rows L2

abbrev Sl := L2.St
/-- what data are told by: the written part, the world -/
structure KW where
  K : PySem.W.Frag
  P : Program
  w : World
abbrev kw (X : Cx) : KW := ⟨X.K, X.prog, X.w⟩
/-- data -/
inductive D where
  | non
  | bl (b : Bool)
  | int (i : Int)
  | str (x : Str)
  | lst (xs : List D)
  | tup (xs : List D)
  | dK (kvs : List (Key × D))
  | dT (kvs : List (List Key × D))
  | sS (xs : List Str)
  | dN (kvs : List (NK × D))
  | scr (ns : List Int)
  deriving Inhabited

/-- what is not written any more -/
def Froz : Option HO → Prop
  | some (.tup _) => True
  | some (.frz _ _) => True
  | _ => False
def Fz (H H' : Hp) : Prop := ∀ a, Froz (H a) → H' a = H a
theorem Fz.refl (H : Hp) : Fz H H := fun _ _ => rfl
theorem Fz.trans {H H1 H2 : Hp} (a : Fz H H1) (b : Fz H1 H2) : Fz H H2 := fun c h => by
  have e := a c h
  rw [b c (by rw [e]; exact h), e]
theorem Fz.of_same {H H' : Hp} (h : Same H H') : Fz H H' := fun a f => by
  cases e : H a with
  | none => rw [e] at f; exact f.elim
  | some o => exact h a o e
theorem same_new {H : Hp} {p : Addr} {o : HO} (h : H p = none) : Same H (upd H p o) := fun b x e => by
  rw [upd_ne (ne_of_none e h)]
  exact e
theorem froz_none {H : Hp} {a : Addr} (e : H a = none) : ¬ Froz (H a) := by rw [e]; exact id

/-- a list that is not written any more -/
def FzL (H : Hp) (a : Addr) (vs : List V) : Prop := ∃ o, H a = some (.frz o (.lst vs))
theorem FzL.rd {H : Hp} {a : Addr} {vs : List V} (h : FzL H a vs) : Rd H a (.lst vs) := .inr h
theorem FzL.mono {H H' : Hp} {a : Addr} {vs : List V} (f : Fz H H') (h : FzL H a vs) : FzL H' a vs := by
  obtain ⟨o, h⟩ := h
  exact ⟨o, by rw [f a (by rw [h]; exact trivial), h]⟩

/-- the script's list: locked, or of the written part -/
def ScrAt (K : KW) (H : Hp) (a : Addr) (ns : List Int) : Prop := FzL H a (ns.map V.int) ∨ SqL K.K (fun _ => none) a (ns.map V.int)
theorem ScrAt.sq {K : KW} {H : Hp} {a : Addr} {ns : List Int} (h : ScrAt K H a ns) : SqL K.K H a (ns.map V.int) := by
  rcases h with h | (h | ⟨o, h⟩) | h
  · exact .inl h.rd
  · cases h
  · cases h
  · exact .inr h
theorem ScrAt.mono {K : KW} {H H' : Hp} {a : Addr} {ns : List Int} (f : Fz H H') (h : ScrAt K H a ns) : ScrAt K H' a ns := h.imp (fun h => h.mono f) id
/-- the entries of a set of texts: the texts l, in some order -/
def keyS (e : Int × Value) : Str := match e.2 with
  | .str k _ => k
  | _ => Str.empty
structure SetD (w : World) (es : Array (Int × Value)) (t : SetTable) (l : List Str) : Prop where
  good : ∀ e ∈ es.toList, ∃ k u, e.2 = .str k u ∧ e.1 = hashStr w k
  nd : l.Nodup
  pm : (es.toList.map keyS).Perm l
  few : es.size < scanBound
  fit : t.fits es.size = true
  ris : Ris t.place.toList
  led : w.params.followText "set-order" = true ∨ t.led = true
def TxSet (w : World) (h : Heap) (a : Addr) (l : List Str) : Prop := ∃ o es ep t, h.get? a = some o ∧ o.ExactSet ∧ o.data = .set es ep t ∧ SetD w es t l
mutual
/-- the value v is d in H, and stays so -/
inductive Dv (K : KW) (H : Hp) : V → D → Prop where
  | non : Dv K H .non .non
  | bl (b : Bool) : Dv K H (.bl b) (.bl b)
  | int (i : Int) : Dv K H (.int i) (.int i)
  | str (x : Str) : Dv K H (.str x) (.str x)
  | lst {a : Addr} {vs : List V} {ds : List D} : FzL H a vs → Dvs K H vs ds → Dv K H (.ref a) (.lst ds)
  | tup {a : Addr} {vs : List V} {ds : List D} : H a = some (.tup vs) → Dvs K H vs ds → Dv K H (.ref a) (.tup ds)
  | dK {a : Addr} {o : Obj} {kv : List (Key × V)} {kvs : List (Key × D)} : H a = some (.frz o (.dK kv)) → kv.map (·.1) = kvs.map (·.1) → Dvs K H (kv.map (·.2)) (kvs.map (·.2)) → Dv K H (.ref a) (.dK kvs)
  | dT {a : Addr} {o : Obj} {kv : List (List Key × V)} {kvs : List (List Key × D)} : H a = some (.frz o (.dT kv)) → kv.map (·.1) = kvs.map (·.1) → Dvs K H (kv.map (·.2)) (kvs.map (·.2)) → Dv K H (.ref a) (.dT kvs)
  | scr {a : Addr} {ns : List Int} : ScrAt K H a ns → Dv K H (.ref a) (.scr ns)
  | sS {a : Addr} {o : Obj} {u : HO} {es : Array (Int × Value)} {ep : Nat} {t : SetTable} {l : List Str} : H a = some (.frz o u) → o.ExactSet → o.data = .set es ep t → SetD K.w es t l → Dv K H (.ref a) (.sS l)
  | dN {a : Addr} {o : Obj} {u : HO} {kv : List (NK × V)} {kvs : List (NK × D)} : H a = some (.frz o u) → DicN K.P K.w o kv → (a == sysModules) = false → kv.map (·.1) = kvs.map (·.1) → Dvs K H (kv.map (·.2)) (kvs.map (·.2)) → Dv K H (.ref a) (.dN kvs)
inductive Dvs (K : KW) (H : Hp) : List V → List D → Prop where
  | nil : Dvs K H [] []
  | cons {v : V} {vs : List V} {d : D} {ds : List D} : Dv K H v d → Dvs K H vs ds → Dvs K H (v :: vs) (d :: ds)
end
section
variable {K : KW} {H H' : Hp}
mutual
theorem Dv.mono (f : Fz H H') : ∀ {v : V} {d : D}, Dv K H v d → Dv K H' v d
  | _, _, .non => .non
  | _, _, .bl b => .bl b
  | _, _, .int i => .int i
  | _, _, .str x => .str x
  | _, _, .lst h hs => .lst (h.mono f) (Dvs.mono f hs)
  | _, _, .tup h hs => .tup (by rw [f _ (by rw [h]; exact trivial), h]) (Dvs.mono f hs)
  | _, _, .dK h e hs => .dK (by rw [f _ (by rw [h]; exact trivial), h]) e (Dvs.mono f hs)
  | _, _, .dT h e hs => .dT (by rw [f _ (by rw [h]; exact trivial), h]) e (Dvs.mono f hs)
  | _, _, .scr h => .scr (h.mono f)
  | _, _, .sS h1 h2 h3 h4 => .sS (by rw [f _ (by rw [h1]; exact trivial), h1]) h2 h3 h4
  | _, _, .dN h1 h2 h3 h4 h5 => .dN (by rw [f _ (by rw [h1]; exact trivial), h1]) h2 h3 h4 (Dvs.mono f h5)
theorem Dvs.mono (f : Fz H H') : ∀ {vs : List V} {ds : List D}, Dvs K H vs ds → Dvs K H' vs ds
  | _, _, .nil => .nil
  | _, _, .cons h hs => .cons (Dv.mono f h) (Dvs.mono f hs)
end
theorem Dvs.length : ∀ {vs : List V} {ds : List D}, Dvs K H vs ds → vs.length = ds.length
  | _, _, .nil => rfl
  | _, _, .cons _ hs => by rw [List.length_cons, List.length_cons, Dvs.length hs]
theorem Dvs.get : ∀ {vs : List V} {ds : List D} {i : Nat} {d : D}, Dvs K H vs ds → ds[i]? = some d → ∃ v, vs[i]? = some v ∧ Dv K H v d
  | _, _, _, _, .nil, e => by simp at e
  | _, _, 0, _, .cons h _, e => by
    simp at e; subst e
    exact ⟨_, rfl, h⟩
  | _, _, i + 1, _, .cons _ hs, e => by
    obtain ⟨v, e1, e2⟩ := Dvs.get (i := i) hs (by simpa using e)
    exact ⟨v, by simpa using e1, e2⟩
theorem Dvs.getV : ∀ {vs : List V} {ds : List D} {i : Nat} {v : V}, Dvs K H vs ds → vs[i]? = some v → ∃ d, ds[i]? = some d ∧ Dv K H v d
  | _, _, _, _, .nil, e => by simp at e
  | _, _, 0, _, .cons h _, e => by
    simp at e; subst e
    exact ⟨_, rfl, h⟩
  | _, _, i + 1, _, .cons _ hs, e => by
    obtain ⟨v, e1, e2⟩ := Dvs.getV (i := i) hs (by simpa using e)
    exact ⟨v, by simpa using e1, e2⟩
theorem Dvs.append : ∀ {vs ws : List V} {ds es : List D}, Dvs K H vs ds → Dvs K H ws es → Dvs K H (vs ++ ws) (ds ++ es)
  | _, _, _, _, .nil, h => h
  | _, _, _, _, .cons h hs, h2 => .cons h (Dvs.append hs h2)
theorem Dvs.set : ∀ {vs : List V} {ds : List D} (i : Nat) {v : V} {d : D}, Dvs K H vs ds → Dv K H v d → Dvs K H (vs.set i v) (ds.set i d)
  | _, _, _, _, _, .nil, _ => .nil
  | _, _, 0, _, _, .cons _ hs, h => .cons h hs
  | _, _, i + 1, _, _, .cons h0 hs, h => .cons h0 (Dvs.set i hs h)
theorem Dvs.eraseIdx : ∀ {vs : List V} {ds : List D} (i : Nat), Dvs K H vs ds → Dvs K H (vs.eraseIdx i) (ds.eraseIdx i)
  | _, _, _, .nil => .nil
  | _, _, 0, .cons _ hs => hs
  | _, _, i + 1, .cons h hs => .cons h (Dvs.eraseIdx i hs)
theorem Dvs.take : ∀ {vs : List V} {ds : List D} (n : Nat), Dvs K H vs ds → Dvs K H (vs.take n) (ds.take n)
  | _, _, 0, _ => .nil
  | _, _, _ + 1, .nil => .nil
  | _, _, n + 1, .cons h hs => .cons h (Dvs.take n hs)
theorem Dvs.drop : ∀ {vs : List V} {ds : List D} (n : Nat), Dvs K H vs ds → Dvs K H (vs.drop n) (ds.drop n)
  | _, _, 0, h => h
  | _, _, _ + 1, .nil => .nil
  | _, _, n + 1, .cons _ hs => Dvs.drop n hs
theorem Dvs.ints : ∀ (ns : List Int), Dvs K H (ns.map V.int) (ns.map D.int)
  | [] => .nil
  | n :: r => .cons (.int n) (Dvs.ints r)
theorem Dvs.strs : ∀ (ns : List Str), Dvs K H (ns.map V.str) (ns.map D.str)
  | [] => .nil
  | n :: r => .cons (.str n) (Dvs.strs r)
theorem Dvs.ints_inv : ∀ {ns : List Int} {vs : List V}, Dvs K H vs (ns.map D.int) → vs = ns.map V.int
  | [], _, .nil => rfl
  | n :: r, _, .cons h hs => by
    cases h
    rw [Dvs.ints_inv hs]; rfl
theorem Dvs.strs_inv : ∀ {ns : List Str} {vs : List V}, Dvs K H vs (ns.map D.str) → vs = ns.map V.str
  | [], _, .nil => rfl
  | n :: r, _, .cons h hs => by
    cases h
    rw [Dvs.strs_inv hs]; rfl
end

/-- an own list, an own dict, held by one slot alone -/
inductive OV where
  | ml (xs : List D)
  | mK (kvs : List (Key × D))
  | mT (kvs : List (List Key × D))
  deriving Inhabited
def OV.d : OV → D
  | .ml xs => .lst xs
  | .mK kvs => .dK kvs
  | .mT kvs => .dT kvs
def OwnAt (K : KW) (H : Hp) (a : Addr) : OV → Prop
  | .ml ds => ∃ vs, H a = some (.lst vs) ∧ Dvs K H vs ds
  | .mK kvs => ∃ kv, H a = some (.dK kv) ∧ kv.map (·.1) = kvs.map (·.1) ∧ Dvs K H (kv.map (·.2)) (kvs.map (·.2))
  | .mT kvs => ∃ kv, H a = some (.dT kv) ∧ kv.map (·.1) = kvs.map (·.1) ∧ Dvs K H (kv.map (·.2)) (kvs.map (·.2))
theorem OwnAt.some {K : KW} {H : Hp} {a : Addr} {x : OV} (h : OwnAt K H a x) : ∃ u, H a = some u ∧ Mut (some u) ∧ ¬ Froz (some u) := by
  cases x with
  | ml ds => obtain ⟨vs, e, _⟩ := h; exact ⟨_, e, trivial, id⟩
  | mK ds => obtain ⟨vs, e, _⟩ := h; exact ⟨_, e, trivial, id⟩
  | mT ds => obtain ⟨vs, e, _⟩ := h; exact ⟨_, e, trivial, id⟩
theorem OwnAt.mono {K : KW} {H H' : Hp} {a : Addr} {x : OV} (f : Fz H H') (e : H' a = H a) (h : OwnAt K H a x) : OwnAt K H' a x := by
  cases x with
  | ml ds => obtain ⟨vs, e1, h1⟩ := h; exact ⟨vs, by rw [e, e1], h1.mono f⟩
  | mK ds => obtain ⟨vs, e1, e2, h1⟩ := h; exact ⟨vs, by rw [e, e1], e2, h1.mono f⟩
  | mT ds => obtain ⟨vs, e1, e2, h1⟩ := h; exact ⟨vs, by rw [e, e1], e2, h1.mono f⟩
/-- frozen: what was own is data -/
theorem OwnAt.frozen {K : KW} {H : Hp} {a : Addr} {x : OV} {u : HO} {o : Obj} (h : OwnAt K H a x) (e : H a = Option.some u) (f : Fz H (upd H a (.frz o u))) : Dv K (upd H a (.frz o u)) (.ref a) x.d := by
  cases x with
  | ml ds =>
    obtain ⟨vs, e1, h1⟩ := h
    rw [e1] at e; cases e
    exact .lst ⟨o, upd_same⟩ (h1.mono f)
  | mK ds =>
    obtain ⟨vs, e1, e2, h1⟩ := h
    rw [e1] at e; cases e
    exact .dK upd_same e2 (h1.mono f)
  | mT ds =>
    obtain ⟨vs, e1, e2, h1⟩ := h
    rw [e1] at e; cases e
    exact .dT upd_same e2 (h1.mono f)

/-- what can be read of a value at once: its own list may be one that is still written -/
def Rv (K : KW) (H : Hp) (v : V) : D → Prop
  | .lst ds => ∃ a vs, v = .ref a ∧ Rd H a (.lst vs) ∧ Dvs K H vs ds
  | .dK kvs => ∃ a kv, v = .ref a ∧ Rd H a (.dK kv) ∧ kv.map (·.1) = kvs.map (·.1) ∧ Dvs K H (kv.map (·.2)) (kvs.map (·.2))
  | .dT kvs => ∃ a kv, v = .ref a ∧ Rd H a (.dT kv) ∧ kv.map (·.1) = kvs.map (·.1) ∧ Dvs K H (kv.map (·.2)) (kvs.map (·.2))
  | d => Dv K H v d
theorem Dv.rv {K : KW} {H : Hp} {v : V} {d : D} (h : Dv K H v d) : Rv K H v d := by
  cases h with
  | lst h hs => exact ⟨_, _, rfl, h.rd, hs⟩
  | dK h e hs => exact ⟨_, _, rfl, .inr ⟨_, h⟩, e, hs⟩
  | dT h e hs => exact ⟨_, _, rfl, .inr ⟨_, h⟩, e, hs⟩
  | tup h hs => exact .tup h hs
  | scr h => exact .scr h
  | sS h1 h2 h3 h4 => exact .sS h1 h2 h3 h4
  | dN h1 h2 h3 h4 h5 => exact .dN h1 h2 h3 h4 h5
  | non => exact .non
  | bl b => exact .bl b
  | int b => exact .int b
  | str b => exact .str b
theorem OwnAt.rv {K : KW} {H : Hp} {a : Addr} {x : OV} (h : OwnAt K H a x) : Rv K H (.ref a) x.d := by
  cases x with
  | ml ds => obtain ⟨vs, e1, h1⟩ := h; exact ⟨_, _, rfl, .inl e1, h1⟩
  | mK ds => obtain ⟨vs, e1, e2, h1⟩ := h; exact ⟨_, _, rfl, .inl e1, e2, h1⟩
  | mT ds => obtain ⟨vs, e1, e2, h1⟩ := h; exact ⟨_, _, rfl, .inl e1, e2, h1⟩

/-- what a slot holds -/
inductive SV where
  | dat (d : D)
  | own (x : OV)
  deriving Inhabited
abbrev EnvD := List (Option SV)
def Sv (K : KW) (H : Hp) (v : V) : SV → Prop
  | .dat d => Dv K H v d
  | .own x => ∃ a, v = .ref a ∧ OwnAt K H a x
/-- the slot i holds an own thing, at a -/
def OwnS (σ : Sl) (ρ : EnvD) (i : Nat) (a : Addr) : Prop := (∃ x, ρ[i]? = some (some (.own x))) ∧ σ[i]? = some (some (.ref a))
structure EnvOk (K : KW) (H : Hp) (σ : Sl) (ρ : EnvD) : Prop where
  len : σ.length = ρ.length
  at' : ∀ (i : Nat) (x : SV), ρ[i]? = some (some x) → ∃ v, σ[i]? = some (some v) ∧ Sv K H v x
  sep : ∀ (i j : Nat) (a : Addr), OwnS σ ρ i a → OwnS σ ρ j a → i = j
/-- from one state to a later one, the slots being the same -/
structure Kp (R : List Nat) (σ : Sl) (ρ : EnvD) (H : Hp) (ρ' : EnvD) (H' : Hp) : Prop where
  obj : ∀ (a : Addr) (o : HO), H a = some o → (∀ i, ¬ OwnS σ ρ i a) → H' a = some o
  trk : ∀ (a : Addr), H' a = none → H a = none
  own : ∀ (i : Nat) (x : OV), ρ'[i]? = some (some (.own x)) → ∃ y, ρ[i]? = some (some (.own y))
  ref : ∀ i ∈ R, ∀ (y : OV), ρ[i]? = some (some (.own y)) → ∃ x, ρ'[i]? = some (some (.own x))
  full : ∀ (i : Nat) (x : SV), ρ[i]? = some (some x) → ∃ y, ρ'[i]? = some (some y)
section
variable {K : KW} {R : List Nat} {σ : Sl} {ρ ρ' ρ1 ρ2 : EnvD} {H H' H1 H2 : Hp} {a : Addr} {i : Nat} {v : V}
theorem Kp.ownS (k : Kp R σ ρ H ρ' H') (h : OwnS σ ρ' i a) : OwnS σ ρ i a := by
  obtain ⟨⟨x, e⟩, e2⟩ := h
  exact ⟨k.own i x e, e2⟩
theorem Kp.trans (k : Kp R σ ρ H ρ1 H1) (k' : Kp R σ ρ1 H1 ρ2 H2) : Kp R σ ρ H ρ2 H2 where
  obj := fun a o e n => k'.obj a o (k.obj a o e n) fun i h => n i (k.ownS h)
  trk := fun a e => k.trk a (k'.trk a e)
  own := fun i x e => by
    obtain ⟨y, e1⟩ := k'.own i x e
    exact k.own i y e1
  ref := fun i hi y e => by
    obtain ⟨x, e1⟩ := k.ref i hi y e
    exact k'.ref i hi x e1
  full := fun i x e => by
    obtain ⟨y, e1⟩ := k.full i x e
    exact k'.full i y e1
theorem Kp.same (h : Same H H') : Kp R σ ρ H ρ H' := ⟨fun a o e _ => h a o e, fun _ e => h.free e, fun _ x e => ⟨x, e⟩, fun _ _ y e => ⟨y, e⟩, fun _ x e => ⟨x, e⟩⟩
theorem Kp.refl : Kp R σ ρ H ρ H := Kp.same (Same.refl H)
theorem EnvOk.ownAt (e : EnvOk K H σ ρ) (h : OwnS σ ρ i a) : ∃ x, ρ[i]? = some (some (.own x)) ∧ OwnAt K H a x := by
  obtain ⟨⟨x, e1⟩, e2⟩ := h
  obtain ⟨v, e3, a', rfl, h⟩ := e.at' i _ e1
  rw [e2] at e3; cases e3
  exact ⟨x, e1, h⟩
theorem Kp.fz (k : Kp R σ ρ H ρ' H') (e : EnvOk K H σ ρ) : Fz H H' := fun a f => by
  cases h : H a with
  | none => rw [h] at f; exact f.elim
  | some o =>
    refine k.obj a o h fun i hi => ?_
    obtain ⟨x, _, hx⟩ := e.ownAt hi
    obtain ⟨u, h1, _, h2⟩ := hx.some
    rw [h1] at f
    exact h2 f
theorem EnvOk.same (e : EnvOk K H σ ρ) (h : Same H H') : EnvOk K H' σ ρ := by
  refine ⟨e.len, fun i x e1 => ?_, e.sep⟩
  obtain ⟨v, e2, hv⟩ := e.at' i x e1
  refine ⟨v, e2, ?_⟩
  cases x with
  | dat d => exact Dv.mono (Fz.of_same h) hv
  | own x =>
    obtain ⟨a, rfl, ho⟩ := hv
    obtain ⟨u, eu, _, _⟩ := ho.some
    exact ⟨a, rfl, ho.mono (Fz.of_same h) (by rw [eu, h a u eu])⟩
end

/-- a value in flight: data, a new own thing, or what the slot i holds -/
inductive RV where
  | dat (d : D)
  | own (x : OV)
  | slot (i : Nat)
  deriving Inhabited
def RvOk (K : KW) (H H' : Hp) (σ : Sl) (ρ' : EnvD) (v : V) : RV → Prop
  | .dat d => Dv K H' v d
  | .own x => ∃ a, v = .ref a ∧ H a = none ∧ (∀ i, ¬ OwnS σ ρ' i a) ∧ OwnAt K H' a x
  | .slot i => σ[i]? = some (some v) ∧ ∃ x, ρ'[i]? = some (some x)
/-- what it reads as, now -/
def rd (ρ : EnvD) : RV → Option D
  | .dat d => some d
  | .own x => some x.d
  | .slot i => match ρ[i]? with
    | some (some (.dat d)) => some d
    | some (some (.own x)) => some x.d
    | _ => none
section
variable {K : KW} {R : List Nat} {σ : Sl} {ρ ρ' ρ1 ρ2 : EnvD} {H H' H1 H2 : Hp} {a : Addr} {i : Nat} {v : V} {r : RV} {d : D}
theorem RvOk.rd (h : RvOk K H H' σ ρ' v r) (e : EnvOk K H' σ ρ') (q : rd ρ' r = some d) : Rv K H' v d := by
  cases r with
  | dat d' => cases q; exact Dv.rv h
  | own x =>
    cases q
    obtain ⟨a, rfl, _, _, h⟩ := h
    exact h.rv
  | slot i =>
    obtain ⟨h, _⟩ := h
    simp only [DL.rd] at q
    split at q
    · rename_i d' e1
      cases q
      obtain ⟨v', e2, hv⟩ := e.at' i _ e1
      rw [h] at e2; cases e2
      exact Dv.rv hv
    · rename_i x e1
      cases q
      obtain ⟨v', e2, a, rfl, hv⟩ := e.at' i _ e1
      rw [h] at e2; cases e2
      exact hv.rv
    · cases q
theorem RvOk.later (h : RvOk K H H1 σ ρ1 v r) (e : EnvOk K H1 σ ρ1) (k : Kp R σ ρ1 H1 ρ2 H2) : RvOk K H H2 σ ρ2 v r := by
  cases r with
  | dat d => exact Dv.mono (k.fz e) h
  | own x =>
    obtain ⟨a, rfl, h1, h2, h3⟩ := h
    obtain ⟨u, eu, _, _⟩ := h3.some
    exact ⟨a, rfl, h1, fun i hi => h2 i (k.ownS hi), h3.mono (k.fz e) (by rw [eu, k.obj a u eu h2])⟩
  | slot i =>
    obtain ⟨h1, x, h2⟩ := h
    exact ⟨h1, k.full i x h2⟩
/-- .. told from an earlier beginning -/
theorem RvOk.from (h : RvOk K H1 H2 σ ρ2 v r) (k : Kp R σ ρ H ρ1 H1) : RvOk K H H2 σ ρ2 v r := by
  cases r with
  | dat d => exact h
  | slot i => exact h
  | own x =>
    obtain ⟨a, rfl, h1, h2, h3⟩ := h
    exact ⟨a, rfl, k.trk a h1, h2, h3⟩
end
end DL

/-! DL2: expressions read by partial functions on environments of data: names, constants, operators, calls, displays, tests. -/
namespace DL
open PySem PySem.Spec PyProof.Rows L2

abbrev FE := EnvD → Option (RV × EnvD)
abbrev FA := EnvD → Option (List RV × EnvD)
abbrev FT := EnvD → Option (Bool × EnvD)
def RvsOk (K : KW) (H H' : Hp) (σ : Sl) (ρ' : EnvD) (vs : List V) (rs : List RV) : Prop := Paired (fun v r => RvOk K H H' σ ρ' v r) vs rs
def tE (K : KW) (R : List Nat) (f : FE) : TE := fun σ H Q => ∃ ρ r ρ', EnvOk K H σ ρ ∧ f ρ = some (r, ρ') ∧ ∀ v H', Kp R σ ρ H ρ' H' → EnvOk K H' σ ρ' → RvOk K H H' σ ρ' v r → Q v H'
def tA (K : KW) (R : List Nat) (f : FA) : TA := fun σ H Q => ∃ ρ r ρ', EnvOk K H σ ρ ∧ f ρ = some (r, ρ') ∧ ∀ v H', Kp R σ ρ H ρ' H' → EnvOk K H' σ ρ' → RvsOk K H H' σ ρ' v r → Q v H'
def tT (K : KW) (R : List Nat) (f : FT) : TT := fun σ H Q => ∃ ρ r ρ', EnvOk K H σ ρ ∧ f ρ = some (r, ρ') ∧ ∀ H', Kp R σ ρ H ρ' H' → EnvOk K H' σ ρ' → Q r H'
abbrev DE (X : Cx) (R : List Nat) (e : Expr) (f : FE) : Prop := PE X e (tE (kw X) R f)
abbrev DA (X : Cx) (R : List Nat) (es : List Expr) (f : FA) : Prop := PA X es (tA (kw X) R f)
abbrev DT (X : Cx) (R : List Nat) (e : Expr) (f : FT) : Prop := PT X e (tT (kw X) R f)
abbrev DW (X : Cx) (R : List Nat) (e : Expr) (f : FT) : Prop := PW X e (tT (kw X) R f)

section
variable {X : Cx}
theorem pe_imp {e : Expr} {t t' : TE} (h : PE X e t) (q : ∀ σ H Q, t' σ H Q → t σ H Q) : PE X e t' := ⟨fun pins s σ H Q I x => h.run pins s σ H Q I (q σ H Q x)⟩
theorem pt_imp {e : Expr} {t t' : TT} (h : PT X e t) (q : ∀ σ H Q, t' σ H Q → t σ H Q) : PT X e t' := ⟨fun pins s σ H Q I x => h.run pins s σ H Q I (q σ H Q x)⟩
theorem pw_imp {e : Expr} {t t' : TT} (h : PW X e t) (q : ∀ σ H Q, t' σ H Q → t σ H Q) : PW X e t' := ⟨fun w pins s σ H Q I x => h.run w pins s σ H Q I (q σ H Q x)⟩
theorem pa_imp {e : List Expr} {t t' : TA} (h : PA X e t) (q : ∀ σ H Q, t' σ H Q → t σ H Q) : PA X e t' := ⟨fun pos pins s σ H Q I x => h.run pos pins s σ H Q I (q σ H Q x)⟩
end

/-- a new result of a pure step: from H to H' all stands -/
def Fr (K : KW) (H H' : Hp) (v : V) : SV → Prop
  | .dat d => Dv K H' v d
  | .own x => ∃ a, v = .ref a ∧ H a = none ∧ OwnAt K H' a x
def SV.r : SV → RV
  | .dat d => .dat d
  | .own x => .own x
theorem Fr.rvOk {K : KW} {H0 H H' : Hp} {σ : Sl} {ρ : EnvD} {v : V} {z : SV} (h : Fr K H H' v z) (e : EnvOk K H σ ρ) (h0 : ∀ a, H a = none → H0 a = none) : RvOk K H0 H' σ ρ v z.r := by
  cases z with
  | dat d => exact h
  | own x =>
    obtain ⟨a, rfl, h1, h2⟩ := h
    refine ⟨a, rfl, h0 a h1, fun i hi => ?_, h2⟩
    obtain ⟨y, _, hy⟩ := e.ownAt hi
    obtain ⟨u, eu, _⟩ := hy.some
    rw [h1] at eu; cases eu
abbrev Pst (K : KW) (H : Hp) (Q : VK) (z : SV) : Prop := ∀ v H', Same H H' → Fr K H H' v z → Q v H'
def g1 (K : KW) (F : D → Option SV) : V → Hp → VK → Prop := fun x H Q => ∃ d z, Rv K H x d ∧ F d = some z ∧ Pst K H Q z
def g2 (K : KW) (F : D → D → Option SV) : R2 := fun x y H Q => ∃ d e z, Rv K H x d ∧ Rv K H y e ∧ F d e = some z ∧ Pst K H Q z
abbrev Rvs (K : KW) (H : Hp) : List V → List D → Prop := Paired (Rv K H)
def gN (K : KW) (F : List D → Option SV) : List V → Hp → VK → Prop := fun x H Q => ∃ d z, Rvs K H x d ∧ F d = some z ∧ Pst K H Q z
def gM (K : KW) (F : D → List D → Option SV) : V → List V → Hp → VK → Prop := fun x y H Q => ∃ d e z, Rv K H x d ∧ Rvs K H y e ∧ F d e = some z ∧ Pst K H Q z

/-! ### functions on environments -/
def varD (i : Nat) : FE := fun ρ => match ρ[i]? with
  | some (some (.dat d)) => some (.dat d, ρ)
  | some (some (.own _)) => some (.slot i, ρ)
  | _ => none
def conD (d : D) : FE := fun ρ => some (.dat d, ρ)
/-- an own slot is frozen -/
def frzS (R : List Nat) (i : Nat) (ρ : EnvD) : Option (RV × EnvD) := match ρ[i]? with
  | some (some (.dat d)) => some (.dat d, ρ)
  | some (some (.own x)) => if i ∈ R then none else some (.dat x.d, ρ.set i (some (.dat x.d)))
  | _ => none
def fzD (R : List Nat) (f : FE) : FE := fun ρ => match f ρ with
  | some (.dat d, ρ') => some (.dat d, ρ')
  | some (.own x, ρ') => some (.dat x.d, ρ')
  | some (.slot i, ρ') => frzS R i ρ'
  | none => none
def un1 (f : FE) (F : D → Option SV) : FE := fun ρ => (f ρ).bind fun p => (rd p.2 p.1).bind fun d => (F d).bind fun z => some (z.r, p.2)
def bin2 (f g : FE) (F : D → D → Option SV) : FE := fun ρ => (f ρ).bind fun p => (g p.2).bind fun q => (rd q.2 p.1).bind fun d => (rd q.2 q.1).bind fun e => (F d e).bind fun z => some (z.r, q.2)
def nilA : FA := fun ρ => some ([], ρ)
def consA (f : FE) (g : FA) : FA := fun ρ => (f ρ).bind fun p => (g p.2).bind fun q => some (p.1 :: q.1, q.2)
def rds (ρ : EnvD) : List RV → Option (List D)
  | [] => some []
  | r :: rs => (rd ρ r).bind fun d => (rds ρ rs).bind fun ds => some (d :: ds)
def callF (g : FA) (F : List D → Option SV) : FE := fun ρ => (g ρ).bind fun p => (rds p.2 p.1).bind fun ds => (F ds).bind fun z => some (z.r, p.2)
def methF (f : FE) (g : FA) (F : D → List D → Option SV) : FE := fun ρ => (f ρ).bind fun p => (g p.2).bind fun q => (rd q.2 p.1).bind fun d => (rds q.2 q.1).bind fun ds => (F d ds).bind fun z => some (z.r, q.2)
def ifF (c : FT) (f g : FE) : FE := fun ρ => (c ρ).bind fun p => if p.1 = true then f p.2 else g p.2
def tstF (f : FE) : FT := fun ρ => (f ρ).bind fun p => match p.1 with
  | .dat (.bl b) => some (b, p.2)
  | _ => none
def truF (F : D → Option Bool) (f : FE) : FT := fun ρ => (f ρ).bind fun p => (rd p.2 p.1).bind fun d => (F d).bind fun b => some (b, p.2)
def andT (f g : FT) : FT := fun ρ => (f ρ).bind fun p => if p.1 = true then g p.2 else some (false, p.2)
def orT (f g : FT) : FT := fun ρ => (f ρ).bind fun p => if p.1 = true then some (true, p.2) else g p.2
def notT (f : FT) : FT := fun ρ => (f ρ).bind fun p => some (!p.1, p.2)
def andV (f g : FE) : FE := fun ρ => (f ρ).bind fun p => match p.1 with
  | .dat (.bl b) => if b = true then g p.2 else some (.dat (.bl false), p.2)
  | _ => none
def orV (f g : FE) : FE := fun ρ => (f ρ).bind fun p => match p.1 with
  | .dat (.bl b) => if b = true then some (.dat (.bl true), p.2) else g p.2
  | _ => none
def notV (f : FE) : FE := fun ρ => (f ρ).bind fun p => match p.1 with
  | .dat (.bl b) => some (.dat (.bl (!b)), p.2)
  | _ => none
def chain3 (f g h : FE) (F G : D → D → Option SV) : FE := fun ρ => (f ρ).bind fun p => (g p.2).bind fun q => (rd q.2 p.1).bind fun d => (rd q.2 q.1).bind fun e => match F d e with
  | some (.dat (.bl b)) => if b = true then (h q.2).bind fun u => (rd u.2 q.1).bind fun e' => (rd u.2 u.1).bind fun c => (G e' c).bind fun z => some (z.r, u.2) else some (.dat (.bl false), q.2)
  | _ => none
def datA : List RV → Option (List D)
  | [] => some []
  | .dat d :: rs => (datA rs).bind fun ds => some (d :: ds)
  | _ :: _ => none
def tupF (g : FA) : FE := fun ρ => (g ρ).bind fun p => (datA p.1).bind fun ds => if ds.length ≤ sizeLine then some (.dat (.tup ds), p.2) else none
def lstF (g : FA) : FE := fun ρ => (g ρ).bind fun p => (datA p.1).bind fun ds => if ds.length ≤ sizeLine then some (.own (.ml ds), p.2) else none

section
variable {K : KW} {R : List Nat} {σ : Sl} {ρ ρ' ρ1 ρ2 : EnvD} {H H' H1 H2 : Hp}
theorem RvsOk.later {vs : List V} {rs : List RV} (h : RvsOk K H H1 σ ρ1 vs rs) (e : EnvOk K H1 σ ρ1) (k : Kp R σ ρ1 H1 ρ2 H2) : RvsOk K H H2 σ ρ2 vs rs := Paired.mapP h fun _ _ q => RvOk.later q e k
theorem RvsOk.from {vs : List V} {rs : List RV} (h : RvsOk K H1 H2 σ ρ2 vs rs) (k : Kp R σ ρ H ρ1 H1) : RvsOk K H H2 σ ρ2 vs rs := Paired.mapP h fun _ _ q => RvOk.from q k
theorem RvsOk.rds : ∀ {vs : List V} {rs : List RV} {ds : List D}, RvsOk K H H' σ ρ' vs rs → EnvOk K H' σ ρ' → rds ρ' rs = some ds → Rvs K H' vs ds
  | _, _, _, .nil, _, q => by
    cases q
    exact .nil
  | _, _, _, .cons h t, e, q => by
    simp only [DL.rds, Option.bind_eq_some_iff] at q
    obtain ⟨d, q1, ds, q2, q3⟩ := q
    cases q3
    exact .cons (RvOk.rd h e q1) (RvsOk.rds t e q2)
theorem RvsOk.dat : ∀ {vs : List V} {rs : List RV} {ds : List D}, RvsOk K H H' σ ρ' vs rs → datA rs = some ds → Dvs K H' vs ds
  | _, _, _, .nil, q => by
    cases q
    exact .nil
  | _, r :: _, _, .cons h t, q => by
    cases r with
    | dat d =>
      simp only [DL.datA, Option.bind_eq_some_iff] at q
      obtain ⟨ds, q2, q3⟩ := q
      cases q3
      exact .cons h (RvsOk.dat t q2)
    | own x => cases q
    | slot i => cases q
theorem EnvOk.frz {i : Nat} {x : OV} {a : Addr} {u : HO} {o : Obj} (e : EnvOk K H σ ρ) (h1 : ρ[i]? = some (some (.own x))) (h2 : σ[i]? = some (some (.ref a))) (hu : H a = some u) (f : Fz H (upd H a (.frz o u))) : EnvOk K (upd H a (.frz o u)) σ (ρ.set i (some (.dat x.d))) := by
  refine ⟨by rw [List.length_set]; exact e.len, fun j y e1 => ?_, fun j k b hj hk => ?_⟩
  · by_cases hj : i = j
    · subst hj
      have hl : i < ρ.length := (List.getElem?_eq_some_iff.mp h1).1
      rw [List.getElem?_set_self hl] at e1
      cases e1
      obtain ⟨v, e2, a', rfl, ho⟩ := e.at' i _ h1
      rw [h2] at e2; cases e2
      exact ⟨_, h2, ho.frozen hu f⟩
    · rw [List.getElem?_set_ne hj] at e1
      obtain ⟨v, e2, hv⟩ := e.at' j y e1
      refine ⟨v, e2, ?_⟩
      cases y with
      | dat d => exact Dv.mono f hv
      | own y =>
        obtain ⟨b, rfl, ho⟩ := hv
        have hb : b ≠ a := fun z => hj (e.sep i j a ⟨⟨x, h1⟩, h2⟩ ⟨⟨y, e1⟩, by rw [← z]; exact e2⟩)
        exact ⟨b, rfl, ho.mono f (upd_ne hb)⟩
  · have back : ∀ j, OwnS σ (ρ.set i (some (.dat x.d))) j b → OwnS σ ρ j b := fun j hj => by
      obtain ⟨⟨y, q⟩, q2⟩ := hj
      by_cases hij : i = j
      · subst hij
        have hl : i < ρ.length := (List.getElem?_eq_some_iff.mp h1).1
        rw [List.getElem?_set_self hl] at q
        cases q
      · rw [List.getElem?_set_ne hij] at q
        exact ⟨⟨y, q⟩, q2⟩
    exact e.sep j k b (back j hj) (back k hk)
theorem fz_upd {a : Addr} {u : HO} {o : Obj} (hu : H a = some u) (hf : ¬ Froz (some u)) : Fz H (upd H a (.frz o u)) := fun b f => by
  by_cases hb : b = a
  · subst hb
    rw [hu] at f
    exact (hf f).elim
  · rw [upd_ne hb]
end

section
variable {X : Cx} {R : List Nat} {e a b c : Expr} {es : List Expr} {f g h : FE} {pos : Pos}
theorem tE_run {pins : List (Addr × Obj)} {σ : Sl} {H : Hp} {s : Shared} {ρ ρ' : EnvD} {r : RV} (de : DE X R e f) (I : Inv X pins σ H s) (ok : EnvOk (kw X) H σ ρ) (q : f ρ = some (r, ρ')) :
    wpAny (model X.prog X.w) X.A (eval e X.env) (EP X pins σ fun v H' => Kp R σ ρ H ρ' H' ∧ EnvOk (kw X) H' σ ρ' ∧ RvOk (kw X) H H' σ ρ' v r) X.xe s :=
  de.run pins s σ H _ I ⟨ρ, r, ρ', ok, q, fun _ _ k e o => ⟨k, e, o⟩⟩
theorem de_var (i : Nat) {x : Str} (hN : X.N[i]? = some x := by rfl) (hv : Vis X.env.scope x := by first | exact Or.inl rfl | exact Or.inr (Or.inl rfl) | exact Or.inr (Or.inr rfl)) (hd : (x == ("__debug__" : Str)) = false := by decide)
    (hcd : (x == ("__classdict__" : Str)) = false := by decide) : DE X R (.Name x pos) (varD i) := by
  refine pe_imp (pe_var hN hv hd hcd) fun σ H Q hq => ?_
  obtain ⟨ρ, r, ρ', ok, q, k⟩ := hq
  unfold varD at q
  split at q
  · rename_i d e1
    cases q
    obtain ⟨v, e2, hv⟩ := ok.at' i _ e1
    exact ⟨v, e2, k v H Kp.refl ok hv⟩
  · rename_i x e1
    cases q
    obtain ⟨v, e2, hv⟩ := ok.at' i _ e1
    exact ⟨v, e2, k v H Kp.refl ok ⟨e2, _, e1⟩⟩
  · cases q
theorem de_con {v : V} {d : D} (h : PE X e (tC v)) (hd : ∀ H, Dv (kw X) H v d) : DE X R e (conD d) := by
  refine pe_imp h fun σ H Q hq => ?_
  obtain ⟨ρ, r, ρ', ok, q, k⟩ := hq
  cases q
  exact k v H Kp.refl ok (hd H)
theorem de_int {i : Int} {j : Nat} : DE X R (.Constant (.int i) j pos) (conD (.int i)) := de_con pe_int fun _ => .int i
theorem de_bl {i : Bool} {j : Nat} : DE X R (.Constant (.bool i) j pos) (conD (.bl i)) := de_con pe_bl fun _ => .bl i
theorem de_non {j : Nat} : DE X R (.Constant .none j pos) (conD .non) := de_con pe_non fun _ => .non
theorem de_str {i : Str} {j : Nat} : DE X R (.Constant (.str i) j pos) (conD (.str i)) := de_con pe_str fun _ => .str i
/-- a module's constant -/
theorem de_glob {x : Str} {v : V} {u : Value} {d : D} (hg : Gl X x) (hm : X.mg x = some u) (r : RelV v u) (hd : ∀ H, Dv (kw X) H v d) (hdb : (x == ("__debug__" : Str)) = false := by decide) : DE X R (.Name x pos) (conD d) :=
  de_con (pe_glob hg hm r hdb) hd

theorem de_fz (de : DE X R e f) : DE X R e (fzD R f) := by
  refine ⟨fun pins s σ H Q I hq => ?_⟩
  obtain ⟨ρ, r, ρ', ok, q, k⟩ := hq
  unfold fzD at q
  split at q
  · rename_i d ρ1 e1
    cases q
    exact thn (tE_run de I ok e1) fun u s1 ⟨v, H1, I1, r1, k1, ok1, o1⟩ => ⟨v, H1, I1, r1, k v H1 k1 ok1 o1⟩
  · rename_i x ρ1 e1
    cases q
    refine thn (tE_run de I ok e1) fun u s1 ⟨v, H1, I1, r1, k1, ok1, o1⟩ => ?_
    obtain ⟨a, rfl, h1, h2, h3⟩ := o1
    obtain ⟨w, ew, mw, nf⟩ := h3.some
    obtain ⟨od, I2⟩ := I1.lock ew mw
    have fz := fz_upd (o := od) ew nf
    refine ⟨.ref a, _, I2, r1, k _ _ ⟨fun b o hb hn => ?_, fun b hb => ?_, k1.own, k1.ref, k1.full⟩ ⟨ok1.len, fun i y e2 => ?_, ok1.sep⟩ (h3.frozen ew fz)⟩
    · have hba : b ≠ a := ne_of_none hb h1
      rw [upd_ne hba]
      exact k1.obj b o hb hn
    · by_cases hba : b = a
      · rw [hba]; exact h1
      · rw [upd_ne hba] at hb
        exact k1.trk b hb
    · obtain ⟨v, e3, hv⟩ := ok1.at' i y e2
      refine ⟨v, e3, ?_⟩
      cases y with
      | dat d => exact Dv.mono fz hv
      | own y =>
        obtain ⟨b, rfl, ho⟩ := hv
        have hb : b ≠ a := fun z => h2 i ⟨⟨y, e2⟩, by rw [← z]; exact e3⟩
        exact ⟨b, rfl, ho.mono fz (upd_ne hb)⟩
  · rename_i i ρ1 e1
    refine thn (tE_run de I ok e1) fun u s1 ⟨v, H1, I1, r1, k1, ok1, o1⟩ => ?_
    obtain ⟨hv, _⟩ := o1
    unfold frzS at q
    split at q
    · rename_i d e2
      cases q
      obtain ⟨v', e3, hd⟩ := ok1.at' i _ e2
      rw [hv] at e3; cases e3
      exact ⟨v, H1, I1, r1, k v H1 k1 ok1 hd⟩
    · rename_i x e2
      split at q
      · cases q
      · rename_i hR
        cases q
        obtain ⟨v', e3, a, rfl, ho⟩ := ok1.at' i _ e2
        rw [hv] at e3; cases e3
        obtain ⟨w, ew, mw, nf⟩ := ho.some
        obtain ⟨od, I2⟩ := I1.lock ew mw
        have fz := fz_upd (o := od) ew nf
        have hl : i < ρ1.length := (List.getElem?_eq_some_iff.mp e2).1
        have own0 : OwnS σ ρ i a := k1.ownS ⟨⟨x, e2⟩, hv⟩
        refine ⟨.ref a, _, I2, r1, k _ _ ⟨fun b o hb hn => ?_, fun b hb => ?_, fun j y e4 => ?_, fun j hj y e4 => ?_, fun j y e4 => ?_⟩ (ok1.frz e2 hv ew fz) (ho.frozen ew fz)⟩
        · have hba : b ≠ a := fun z => hn i (by rw [z]; exact own0)
          rw [upd_ne hba]
          exact k1.obj b o hb hn
        · by_cases hba : b = a
          · rw [hba, upd_same] at hb; cases hb
          · rw [upd_ne hba] at hb
            exact k1.trk b hb
        · by_cases hij : i = j
          · subst hij
            rw [List.getElem?_set_self hl] at e4; cases e4
          · rw [List.getElem?_set_ne hij] at e4
            exact k1.own j y e4
        · have hij : i ≠ j := fun z => hR (by rw [z]; exact hj)
          rw [List.getElem?_set_ne hij]
          exact k1.ref j hj y e4
        · by_cases hij : i = j
          · subst hij
            rw [List.getElem?_set_self hl]; exact ⟨_, rfl⟩
          · rw [List.getElem?_set_ne hij]
            exact k1.full j y e4
    · cases q
  · cases q

theorem tE_bin {t1 t2 : TE} {r : R2} {F : D → D → Option SV} {σ : Sl} {H : Hp} {Q : VK} (hq : tE (kw X) R (bin2 f g F) σ H Q)
    (h1 : ∀ σ H Q, tE (kw X) R f σ H Q → t1 σ H Q) (h2 : ∀ σ H Q, tE (kw X) R g σ H Q → t2 σ H Q) (hr : ∀ x y H Q, g2 (kw X) F x y H Q → r x y H Q) : tOp r t1 t2 σ H Q := by
  obtain ⟨ρ, r', ρ', ok, q, k⟩ := hq
  simp only [bin2, Option.bind_eq_some_iff] at q
  obtain ⟨⟨ra, ρ1⟩, q1, ⟨rb, ρ2⟩, q2, d, q3, e, q4, z, q5, q6⟩ := q
  cases q6
  refine h1 _ _ _ ⟨ρ, ra, ρ1, ok, q1, fun v H1 k1 ok1 o1 => ?_⟩
  refine h2 _ _ _ ⟨ρ1, rb, ρ2, ok1, q2, fun w H2 k2 ok2 o2 => ?_⟩
  have o1' := RvOk.later o1 ok1 k2
  refine hr _ _ _ _ ⟨d, e, z, RvOk.rd o1' ok2 q3, RvOk.rd o2 ok2 q4, q5, fun x H3 sm fr => ?_⟩
  exact k x H3 ((k1.trans k2).trans (Kp.same sm)) (ok2.same sm) (fr.rvOk ok2 fun b hb => (k1.trans k2).trk b hb)
theorem de_bin {op : Operator} {F : D → D → Option SV} (ho : OpR X (binaryOp op) (g2 (kw X) F)) (ha : DE X R a f) (hb : DE X R b g) : DE X R (.BinOp a op b pos) (bin2 f g F) :=
  pe_imp (pe_op ho ha hb) fun _ _ _ hq => tE_bin hq (fun _ _ _ z => z) (fun _ _ _ z => z) fun _ _ _ _ z => z
theorem de_cmp {op : CmpOp} {F : D → D → Option SV} (ho : OpR X (compareOp op) (g2 (kw X) F)) (ha : DE X R a f) (hb : DE X R b g) (hm : behindInMarks op b = false) : DE X R (.Compare a [op] [b] pos) (bin2 f g F) :=
  pe_imp (pe_cmpR ho ha hb hm) fun _ _ _ hq => tE_bin hq (fun _ _ _ z => z) (fun _ _ _ z => z) fun _ _ _ _ z => z
theorem de_ix {F : D → D → Option SV} (ho : IxR X (g2 (kw X) F)) (ha : DE X R a f) (hb : DE X R b g) (hs : PlainIx b := by exact fun _ _ => rfl) : DE X R (.Subscript a b pos) (bin2 f g F) :=
  pe_imp (pe_ix ho ha hb hs) fun _ _ _ hq => tE_bin hq (fun _ _ _ z => z) (fun _ _ _ z => z) fun _ _ _ _ z => z
theorem de_un {op : UnaryOp} {F : D → Option SV} (ho : UnR X (unaryOp op) (g1 (kw X) F)) (ha : DE X R a f) : DE X R (.UnaryOp op a pos) (un1 f F) := by
  refine pe_imp (pe_un ho ha) fun σ H Q hq => ?_
  obtain ⟨ρ, r', ρ', ok, q, k⟩ := hq
  simp only [un1, Option.bind_eq_some_iff] at q
  obtain ⟨⟨ra, ρ1⟩, q1, d, q3, z, q5, q6⟩ := q
  cases q6
  refine ⟨ρ, ra, ρ1, ok, q1, fun v H1 k1 ok1 o1 => ?_⟩
  refine ⟨d, z, RvOk.rd o1 ok1 q3, q5, fun x H3 sm fr => ?_⟩
  exact k x H3 (k1.trans (Kp.same sm)) (ok1.same sm) (fr.rvOk ok1 fun b hb => k1.trk b hb)
theorem da_nil : DA X R [] nilA := pa_imp pa_nil fun σ H Q hq => by
  obtain ⟨ρ, r', ρ', ok, q, k⟩ := hq
  cases q
  exact k [] H Kp.refl ok .nil
theorem da_cons {g : FA} (ha : DE X R e f) (hr : DA X R es g) (hs : starEach (e :: es) X.env = (false, eval e X.env) :: starEach es X.env := by rfl) : DA X R (e :: es) (consA f g) := by
  refine pa_imp (pa_cons ha hr hs) fun σ H Q hq => ?_
  obtain ⟨ρ, r', ρ', ok, q, k⟩ := hq
  simp only [consA, Option.bind_eq_some_iff] at q
  obtain ⟨⟨ra, ρ1⟩, q1, ⟨rb, ρ2⟩, q2, q3⟩ := q
  cases q3
  refine ⟨ρ, ra, ρ1, ok, q1, fun v H1 k1 ok1 o1 => ?_⟩
  refine ⟨ρ1, rb, ρ2, ok1, q2, fun vs H2 k2 ok2 o2 => ?_⟩
  exact k _ H2 (k1.trans k2) ok2 (.cons (RvOk.later o1 ok1 k2) (RvsOk.from o2 k1))
theorem tE_call {t : TA} {r : List V → Hp → VK → Prop} {F : List D → Option SV} {g : FA} {σ : Sl} {H : Hp} {Q : VK} (hq : tE (kw X) R (callF g F) σ H Q)
    (h1 : ∀ σ H Q, tA (kw X) R g σ H Q → t σ H Q) (hr : ∀ x H Q, gN (kw X) F x H Q → r x H Q) : tCB r t σ H Q := by
  obtain ⟨ρ, r', ρ', ok, q, k⟩ := hq
  simp only [callF, Option.bind_eq_some_iff] at q
  obtain ⟨⟨ra, ρ1⟩, q1, d, q3, z, q5, q6⟩ := q
  cases q6
  refine h1 _ _ _ ⟨ρ, ra, ρ1, ok, q1, fun v H1 k1 ok1 o1 => ?_⟩
  refine hr _ _ _ ⟨d, z, RvsOk.rds o1 ok1 q3, q5, fun x H3 sm fr => ?_⟩
  exact k x H3 (k1.trans (Kp.same sm)) (ok1.same sm) (fr.rvOk ok1 fun b hb => k1.trk b hb)
theorem de_callB {id : String} {x : Str} {p : Pos} {F : List D → Option SV} {g : FA} (hc : CallR X (.builtin id) (gN (kw X) F)) (hg : Gl X x) (hm : X.mg x = none) (hv : bootBuiltins x = some (.builtin id)) (ha : DA X R (e :: es) g) (hn : x ≠ "__name__" := by decide) (hdb : (x == ("__debug__" : Str)) = false := by decide)
    (he : starEach (e :: es) X.env = (false, eval e X.env) :: starEach es X.env := by rfl) (hpl : (backTo pos (starEach es X.env)).any (·.1) = false := by rfl) : DE X R (.Call (.Name x p) (e :: es) [] pos) (callF g F) :=
  pe_imp (pe_callB hc hg hm hv ha hn hdb he hpl) fun _ _ _ hq => tE_call hq (fun _ _ _ z => z) fun _ _ _ z => z
theorem de_callT {T : String} {x : Str} {p : Pos} {F : List D → Option SV} {g : FA} (hc : CallR X (.type T) (gN (kw X) F)) (hg : Gl X x) (hm : X.mg x = none) (hv : bootBuiltins x = some (.type T)) (ha : DA X R (e :: es) g) (hn : x ≠ "__name__" := by decide) (hdb : (x == ("__debug__" : Str)) = false := by decide)
    (he : starEach (e :: es) X.env = (false, eval e X.env) :: starEach es X.env := by rfl) (hpl : (backTo pos (starEach es X.env)).any (·.1) = false := by rfl) : DE X R (.Call (.Name x p) (e :: es) [] pos) (callF g F) :=
  pe_imp (pe_callTy hc hg hm hv ha hn hdb he hpl) fun _ _ _ hq => tE_call hq (fun _ _ _ z => z) fun _ _ _ z => z
theorem de_tup {x1 : Nat} {g : FA} (ha : DA X R es g) : DE X R (.Tuple es x1 pos) (tupF g) := by
  refine pe_imp (pe_tup ha) fun σ H Q hq => ?_
  obtain ⟨ρ, r', ρ', ok, q, k⟩ := hq
  simp only [tupF, Option.bind_eq_some_iff] at q
  obtain ⟨⟨ra, ρ1⟩, q1, ds, q2, q3⟩ := q
  split at q3
  · rename_i hl
    cases q3
    refine ⟨ρ, ra, ρ1, ok, q1, fun vs H1 k1 ok1 o1 => ?_⟩
    have hd := RvsOk.dat o1 q2
    refine ⟨by rw [hd.length]; exact hl, fun p hp => ?_⟩
    have sm := same_new (o := HO.tup vs) hp
    exact k _ _ (k1.trans (Kp.same sm)) (ok1.same sm) (.tup upd_same (hd.mono (Fz.of_same sm)))
  · cases q3
theorem de_lst {g : FA} (ha : DA X R es g) : DE X R (.List es pos) (lstF g) := by
  refine pe_imp (pe_lst ha) fun σ H Q hq => ?_
  obtain ⟨ρ, r', ρ', ok, q, k⟩ := hq
  simp only [lstF, Option.bind_eq_some_iff] at q
  obtain ⟨⟨ra, ρ1⟩, q1, ds, q2, q3⟩ := q
  split at q3
  · rename_i hl
    cases q3
    refine ⟨ρ, ra, ρ1, ok, q1, fun vs H1 k1 ok1 o1 => ?_⟩
    have hd := RvsOk.dat o1 q2
    refine ⟨by rw [hd.length]; exact hl, fun p hp => ?_⟩
    have sm := same_new (o := HO.lst vs) hp
    refine k _ _ (k1.trans (Kp.same sm)) (ok1.same sm) ⟨p, rfl, k1.trk p hp, fun i hi => ?_, vs, upd_same, hd.mono (Fz.of_same sm)⟩
    obtain ⟨y, _, hy⟩ := ok1.ownAt hi
    obtain ⟨u, eu, _⟩ := hy.some
    rw [hp] at eu; cases eu
  · cases q3

/-! tests -/
theorem tT_of {t : TE} {σ : Sl} {H : Hp} {Q : Bool → Hp → Prop} (hq : tT (kw X) R (tstF f) σ H Q) (h1 : ∀ σ H Q, tE (kw X) R f σ H Q → t σ H Q) : t σ H fun x H' => ∃ k, x = .bl k ∧ Q k H' := by
  obtain ⟨ρ, r', ρ', ok, q, k⟩ := hq
  simp only [tstF, Option.bind_eq_some_iff] at q
  obtain ⟨⟨ra, ρ1⟩, q1, q2⟩ := q
  split at q2
  · rename_i b' e
    obtain rfl : ra = .dat (.bl b') := e
    cases q2
    refine h1 _ _ _ ⟨ρ, _, ρ1, ok, q1, fun v H1 k1 ok1 o1 => ?_⟩
    cases (show Dv (kw X) H1 v (.bl _) from o1)
    exact ⟨_, rfl, k H1 k1 ok1⟩
  · cases q2
theorem dt_cmp {op : CmpOp} {F : D → D → Option SV} (ho : OpR X (compareOp op) (g2 (kw X) F)) (ha : DE X R a f) (hb : DE X R b g) (hm : behindInMarks op b = false) : DT X R (.Compare a [op] [b] pos) (tstF (bin2 f g F)) :=
  pt_imp (pt_cmpR ho ha hb hm) fun _ _ _ hq => tT_of hq fun _ _ _ hq => tE_bin hq (fun _ _ _ z => z) (fun _ _ _ z => z) fun _ _ _ _ z => z
theorem dt_val (de : DE X R e f) (he : ∀ whole, isTrue e X.env whole = (do let v ← whole; standAt e.pos; holding [v] (truthy v)) := by intro _; rfl) : DT X R e (tstF f) :=
  pt_imp (pt_val de he) fun _ _ _ hq => tT_of hq fun _ _ _ z => z
theorem dt_and {f g : FT} {rest : List Expr} (ha : DT X R a f) (hb : DW X R (.BoolOp .And (b :: rest) pos) g) : DW X R (.BoolOp .And (a :: b :: rest) pos) (andT f g) :=
  pw_imp (pw_and ha hb) fun σ H Q hq => by
    obtain ⟨ρ, r', ρ', ok, q, k⟩ := hq
    simp only [andT, Option.bind_eq_some_iff] at q
    obtain ⟨⟨c, ρ1⟩, q1, q2⟩ := q
    refine ⟨ρ, c, ρ1, ok, q1, fun H1 k1 ok1 => ?_⟩
    by_cases hc : c = true
    · subst hc
      rw [if_pos rfl] at q2 ⊢
      exact ⟨ρ1, r', ρ', ok1, q2, fun H2 k2 ok2 => k H2 (k1.trans k2) ok2⟩
    · rw [if_neg hc] at q2 ⊢
      cases q2
      exact k H1 k1 ok1
theorem dt_and1 {f : FT} (ha : DT X R a f) : DW X R (.BoolOp .And [a] pos) f := pw_and1 ha
theorem dt_or1 {f : FT} (ha : DT X R a f) : DW X R (.BoolOp .Or [a] pos) f := pw_or1 ha
theorem dt_or {f g : FT} {rest : List Expr} (ha : DT X R a f) (hb : DW X R (.BoolOp .Or (b :: rest) pos) g) : DW X R (.BoolOp .Or (a :: b :: rest) pos) (orT f g) :=
  pw_imp (pw_or ha hb) fun σ H Q hq => by
    obtain ⟨ρ, r', ρ', ok, q, k⟩ := hq
    simp only [orT, Option.bind_eq_some_iff] at q
    obtain ⟨⟨c, ρ1⟩, q1, q2⟩ := q
    refine ⟨ρ, c, ρ1, ok, q1, fun H1 k1 ok1 => ?_⟩
    by_cases hc : c = true
    · subst hc
      rw [if_pos rfl] at q2 ⊢
      cases q2
      exact k H1 k1 ok1
    · rw [if_neg hc] at q2 ⊢
      exact ⟨ρ1, r', ρ', ok1, q2, fun H2 k2 ok2 => k H2 (k1.trans k2) ok2⟩
theorem dt_not {f : FT} (ha : DT X R a f) : DT X R (.UnaryOp .Not a pos) (notT f) :=
  pt_imp (pt_not ha) fun σ H Q hq => by
    obtain ⟨ρ, r', ρ', ok, q, k⟩ := hq
    simp only [notT, Option.bind_eq_some_iff] at q
    obtain ⟨⟨c, ρ1⟩, q1, q2⟩ := q
    cases q2
    exact ⟨ρ, c, ρ1, ok, q1, fun H1 k1 ok1 => k H1 k1 ok1⟩
theorem de_if {c : Expr} {t : FT} (hc : DT X R c t) (ha : DE X R a f) (hb : DE X R b g) : DE X R (.IfExp c a b pos) (ifF t f g) :=
  pe_imp (pe_ifExp hc ha hb) fun σ H Q hq => by
    obtain ⟨ρ, r', ρ', ok, q, k⟩ := hq
    simp only [ifF, Option.bind_eq_some_iff] at q
    obtain ⟨⟨c, ρ1⟩, q1, q2⟩ := q
    refine ⟨ρ, c, ρ1, ok, q1, fun H1 k1 ok1 => ?_⟩
    by_cases hc : c = true
    · subst hc
      rw [if_pos rfl] at q2 ⊢
      exact ⟨ρ1, r', ρ', ok1, q2, fun v H2 k2 ok2 o2 => k v H2 (k1.trans k2) ok2 (RvOk.from o2 k1)⟩
    · rw [if_neg hc] at q2 ⊢
      exact ⟨ρ1, r', ρ', ok1, q2, fun v H2 k2 ok2 o2 => k v H2 (k1.trans k2) ok2 (RvOk.from o2 k1)⟩
theorem de_one {op : BoolOp} (h : DE X R a f) : DE X R (.BoolOp op [a] pos) f := pe_one h
theorem de_and {rest : List Expr} (ha : DE X R a f) (hb : DE X R (.BoolOp .And (b :: rest) pos) g) : DE X R (.BoolOp .And (a :: b :: rest) pos) (andV f g) :=
  pe_imp (pe_and ha hb) fun σ H Q hq => by
    obtain ⟨ρ, r', ρ', ok, q, k⟩ := hq
    simp only [andV, Option.bind_eq_some_iff] at q
    obtain ⟨⟨ra, ρ1⟩, q1, q2⟩ := q
    refine ⟨ρ, ra, ρ1, ok, q1, fun v H1 k1 ok1 o1 => ?_⟩
    split at q2
    · rename_i b' e
      obtain rfl : ra = .dat (.bl b') := e
      cases (show Dv (kw X) H1 v (.bl b') from o1)
      refine ⟨b', rfl, ?_⟩
      by_cases hb' : b' = true
      · rw [if_pos hb'] at q2 ⊢
        exact ⟨ρ1, r', ρ', ok1, q2, fun v H2 k2 ok2 o2 => k v H2 (k1.trans k2) ok2 (RvOk.from o2 k1)⟩
      · rw [if_neg hb'] at q2 ⊢
        cases q2
        exact k _ H1 k1 ok1 (.bl false)
    · cases q2
theorem de_or {rest : List Expr} (ha : DE X R a f) (hb : DE X R (.BoolOp .Or (b :: rest) pos) g) : DE X R (.BoolOp .Or (a :: b :: rest) pos) (orV f g) :=
  pe_imp (pe_or ha hb) fun σ H Q hq => by
    obtain ⟨ρ, r', ρ', ok, q, k⟩ := hq
    simp only [orV, Option.bind_eq_some_iff] at q
    obtain ⟨⟨ra, ρ1⟩, q1, q2⟩ := q
    refine ⟨ρ, ra, ρ1, ok, q1, fun v H1 k1 ok1 o1 => ?_⟩
    split at q2
    · rename_i b' e
      obtain rfl : ra = .dat (.bl b') := e
      cases (show Dv (kw X) H1 v (.bl b') from o1)
      refine ⟨b', rfl, ?_⟩
      by_cases hb' : b' = true
      · rw [if_pos hb'] at q2 ⊢
        cases q2
        exact k _ H1 k1 ok1 (.bl true)
      · rw [if_neg hb'] at q2 ⊢
        exact ⟨ρ1, r', ρ', ok1, q2, fun v H2 k2 ok2 o2 => k v H2 (k1.trans k2) ok2 (RvOk.from o2 k1)⟩
    · cases q2
theorem de_not (ha : DE X R a f) : DE X R (.UnaryOp .Not a pos) (notV f) :=
  pe_imp (pe_not ha) fun σ H Q hq => by
    obtain ⟨ρ, r', ρ', ok, q, k⟩ := hq
    simp only [notV, Option.bind_eq_some_iff] at q
    obtain ⟨⟨ra, ρ1⟩, q1, q2⟩ := q
    refine ⟨ρ, ra, ρ1, ok, q1, fun v H1 k1 ok1 o1 => ?_⟩
    split at q2
    · rename_i b' e
      obtain rfl : ra = _ := e
      cases (show Dv (kw X) H1 v (.bl _) from o1)
      cases q2
      exact ⟨_, rfl, k _ H1 k1 ok1 (.bl _)⟩
    · cases q2
theorem chain_red {F G : D → D → Option SV} {σ : Sl} {H : Hp} {Q : VK} (hq : tE (kw X) R (chain3 f g h F G) σ H Q) : tChain (g2 (kw X) F) (g2 (kw X) G) (tE (kw X) R f) (tE (kw X) R g) (tE (kw X) R h) σ H Q := by
    obtain ⟨ρ, r', ρ', ok, q, k⟩ := hq
    simp only [chain3, Option.bind_eq_some_iff] at q
    obtain ⟨⟨ra, ρ1⟩, q1, ⟨rb, ρ2⟩, q2, d, q3, e, q4, q⟩ := q
    refine ⟨ρ, ra, ρ1, ok, q1, fun v H1 k1 ok1 o1 => ?_⟩
    refine ⟨ρ1, rb, ρ2, ok1, q2, fun w H2 k2 ok2 o2 => ?_⟩
    have o1' := RvOk.later o1 ok1 k2
    split at q
    · rename_i b' e5
      refine ⟨d, e, _, RvOk.rd o1' ok2 q3, RvOk.rd o2 ok2 q4, e5, fun x H3 sm fr => ?_⟩
      cases (show Dv (kw X) H3 x (.bl b') from fr)
      refine ⟨b', rfl, ?_⟩
      have ok3 := ok2.same sm
      have k3 : Kp R σ ρ2 H2 ρ2 H3 := Kp.same sm
      by_cases hb' : b' = true
      · rw [if_pos hb'] at q ⊢
        simp only [Option.bind_eq_some_iff] at q
        obtain ⟨⟨rc, ρ3⟩, q6, e', q7, c', q8, z, q9, q10⟩ := q
        cases q10
        refine ⟨ρ2, rc, ρ3, ok3, q6, fun y H4 k4 ok4 o4 => ?_⟩
        have o2' := RvOk.later (RvOk.later o2 ok2 k3) ok3 k4
        refine ⟨e', c', z, RvOk.rd o2' ok4 q7, RvOk.rd o4 ok4 q8, q9, fun x H5 sm5 fr5 => ?_⟩
        have kk := ((k1.trans k2).trans k3).trans k4
        exact k x H5 (kk.trans (Kp.same sm5)) (ok4.same sm5) (fr5.rvOk ok4 fun b hb => kk.trk b hb)
      · rw [if_neg hb'] at q ⊢
        cases q
        exact k _ H3 ((k1.trans k2).trans k3) ok3 (.bl false)
    · cases q
theorem de_chain {op op' : CmpOp} {F G : D → D → Option SV} (ho : OpR X (compareOp op) (g2 (kw X) F)) (ho' : OpR X (compareOp op') (g2 (kw X) G)) (ha : DE X R a f) (hb : DE X R b g) (hc : DE X R c h)
    (hm : lastMarks [op, op'] [b, c] = false := by with_unfolding_all rfl) : DE X R (.Compare a [op, op'] [b, c] pos) (chain3 f g h F G) :=
  pe_imp (pe_chain ho ho' ha hb hc hm) fun σ H Q hq => chain_red hq
theorem dt_chain {op op' : CmpOp} {F G : D → D → Option SV} (ho : OpR X (compareOp op) (g2 (kw X) F)) (ho' : OpR X (compareOp op') (g2 (kw X) G)) (ha : DE X R a f) (hb : DE X R b g) (hc : DE X R c h)
    (hm : lastMarks [op, op'] [b, c] = false := by with_unfolding_all rfl) : DT X R (.Compare a [op, op'] [b, c] pos) (tstF (chain3 f g h F G)) :=
  pt_imp (pt_chain ho ho' ha hb hc hm) fun _ _ _ hq => tT_of hq fun _ _ _ hq => chain_red hq
/-- a module's constant -/
theorem de_gint {x : Str} {n : Int} (h : ∃ t, X.mg x = some (.int n t)) (hg : Gl X x := by rfl) (hdb : (x == ("__debug__" : Str)) = false := by decide) : DE X R (.Name x pos) (conD (.int n)) := by
  obtain ⟨t, h⟩ := h
  exact de_glob (v := .int n) hg h ⟨t, rfl⟩ (fun _ => .int n) hdb
theorem de_gstr {x y : Str} (h : ∃ t, X.mg x = some (.str y t)) (hg : Gl X x := by rfl) (hdb : (x == ("__debug__" : Str)) = false := by decide) : DE X R (.Name x pos) (conD (.str y)) := by
  obtain ⟨t, h⟩ := h
  exact de_glob (v := .str y) hg h ⟨t, rfl⟩ (fun _ => .str y) hdb
end
end DL

/-! DL3: what the operators are worth on data. -/
namespace DL
open PySem PySem.Spec PyProof.Rows L2

/-! ### numbers -/
def addD : D → D → Option SV
  | .int i, .int j => some (.dat (.int (i + j)))
  | .str x, .str y => if x.length + y.length ≤ sizeLine then some (.dat (.str (x ++ y))) else none
  | .lst xs, .lst ys => if xs.length + ys.length ≤ sizeLine then some (.own (.ml (xs ++ ys))) else none
  | .tup xs, .tup ys => if xs.length + ys.length ≤ sizeLine then some (.dat (.tup (xs ++ ys))) else none
  | _, _ => none
def subD : D → D → Option SV
  | .int i, .int j => some (.dat (.int (i - j)))
  | _, _ => none
instance (i j : Int) : Decidable (CMulW i j) := by unfold CMulW; infer_instance
instance (i j : Int) : Decidable (CDivW i j) := by unfold CDivW; infer_instance
instance (i j : Int) : Decidable (CPow i j) := by unfold CPow; infer_instance
/-- a text so many times -/
def repS (x : Str) (n : Nat) : Str := ⟨(List.replicate n x.cps).foldl (· ++ ·) #[]⟩
def mulD : D → D → Option SV
  | .int i, .int j => if CMulW i j then some (.dat (.int (i * j))) else none
  | .str x, .int k => if k < 2 ^ 62 ∧ x.length * k.toNat ≤ sizeLine ∧ -(2 ^ 62) < k then some (.dat (.str (repS x k.toNat))) else none
  | .lst xs, .int k => if k < 2 ^ 62 ∧ xs.length * k.toNat ≤ sizeLine ∧ -(2 ^ 62) < k then some (.own (.ml (List.replicate k.toNat xs).flatten)) else none
  | .tup xs, .int k => if 2 ≤ k ∧ k ≤ 1000 ∧ xs ≠ [] ∧ xs.length ≤ 1000 then some (.dat (.tup (List.replicate k.toNat xs).flatten)) else none
  | _, _ => none
def divD : D → D → Option SV
  | .int i, .int j => if CDivW i j then some (.dat (.int (i / j))) else none
  | _, _ => none
def modD : D → D → Option SV
  | .int i, .int j => if 0 < j then some (.dat (.int (i % j))) else none
  | _, _ => none
def powD : D → D → Option SV
  | .int i, .int j => if CPow i j then some (.dat (.int (i ^ j.toNat))) else none
  | _, _ => none
def negD : D → Option SV
  | .int i => some (.dat (.int (-i)))
  | _ => none
def ltD : D → D → Option SV
  | .int i, .int j => some (.dat (.bl (decide (i < j))))
  | .str i, .str j => some (.dat (.bl (decide (i.cps.toList < j.cps.toList))))
  | _, _ => none
def leD : D → D → Option SV
  | .int i, .int j => some (.dat (.bl (decide (i ≤ j))))
  | _, _ => none
def gtD : D → D → Option SV
  | .int i, .int j => some (.dat (.bl (decide (j < i))))
  | _, _ => none
def geD : D → D → Option SV
  | .int i, .int j => some (.dat (.bl (decide (j ≤ i))))
  | _, _ => none
def isNon : D → Bool
  | .non => true
  | _ => false
/-- is None, is True, is False -/
def isD : D → D → Option SV
  | d, .non => some (.dat (.bl (isNon d)))
  | .bl a, .bl b => some (.dat (.bl (decide (a = b))))
  | _, _ => none
def isnD : D → D → Option SV
  | d, .non => some (.dat (.bl (!isNon d)))
  | .bl a, .bl b => some (.dat (.bl (!decide (a = b))))
  | _, _ => none

section
variable {K : KW} {H : Hp} {v : V}
theorem rv_int {i : Int} (h : Rv K H v (.int i)) : v = .int i := by cases (show Dv K H v (.int i) from h); rfl
theorem rv_bl {i : Bool} (h : Rv K H v (.bl i)) : v = .bl i := by cases (show Dv K H v (.bl i) from h); rfl
theorem rv_str {i : Str} (h : Rv K H v (.str i)) : v = .str i := by cases (show Dv K H v (.str i) from h); rfl
theorem rv_non (h : Rv K H v .non) : v = .non := by cases (show Dv K H v .non from h); rfl
theorem rv_tup {ds : List D} (h : Rv K H v (.tup ds)) : ∃ a vs, v = .ref a ∧ H a = some (.tup vs) ∧ Dvs K H vs ds := by
  cases (show Dv K H v (.tup ds) from h) with
  | tup h1 h2 => exact ⟨_, _, rfl, h1, h2⟩
theorem Dvs.replicate {vs : List V} {ds : List D} (h : Dvs K H vs ds) : ∀ n, Dvs K H (List.replicate n vs).flatten (List.replicate n ds).flatten
  | 0 => .nil
  | n + 1 => by
    rw [List.replicate_succ, List.replicate_succ, List.flatten_cons, List.flatten_cons]
    exact h.append (Dvs.replicate h n)
theorem pst_dat {Q : VK} {d : D} (h : Pst K H Q (.dat d)) {w : V} (hw : Dv K H w d) : Q w H := h w H (Same.refl H) hw
theorem pst_tup {Q : VK} {ds : List D} {vs : List V} (h : Pst K H Q (.dat (.tup ds))) (hs : Dvs K H vs ds) {p : Addr} (hp : H p = none) : Q (.ref p) (upd H p (.tup vs)) := by
  have sm := same_new (o := HO.tup vs) hp
  exact h _ _ sm (.tup upd_same (hs.mono (Fz.of_same sm)))
theorem pst_lst {Q : VK} {ds : List D} {vs : List V} (h : Pst K H Q (.own (.ml ds))) (hs : Dvs K H vs ds) {p : Addr} (hp : H p = none) : Q (.ref p) (upd H p (.lst vs)) := by
  have sm := same_new (o := HO.lst vs) hp
  exact h _ _ sm ⟨p, rfl, hp, vs, upd_same, hs.mono (Fz.of_same sm)⟩
end
section
variable {X : Cx} {pins : List (Addr × Obj)} {σ : Sl} {H : Hp} {s : Shared} {a : Addr} {vs : List V}
theorem inv_lst (I : Inv X pins σ H s) (h : Rd H a (.lst vs)) : vs.length ≤ sizeLine ∧ ∃ (its : List Value) (n : Nat), Vals vs its ∧ its.length = vs.length ∧ s.heap.get? a = some { cls := .type "list", data := .seq its.toArray n } := by
  obtain ⟨z, its, n, r, e⟩ := h.ok I.hok
  exact ⟨z, its, n, r, r.length.symm, e⟩
/-- a new list is laid and told -/
theorem new_lst (I : Inv X pins σ H s) {its : List Value} {vs : List V} {n tk : Nat} {Q : VK} (r : Vals vs its) (hz : vs.length ≤ sizeLine) (q : ∀ p, H p = none → Q (.ref p) (upd H p (.lst vs))) :
    EP X pins σ Q (.ref s.heap.objs.size) { s with heap := s.heap.push { cls := .type "list", data := .seq its.toArray n }, toks := tk } := by
  have hf : H s.heap.objs.size = none := I.hok.fresh (Nat.le_refl _)
  exact ⟨.ref s.heap.objs.size, _, I.laid (o := .lst vs) (t' := tk) (fun b u e => Heap.get?_push_of_some _ e) (Nat.le_refl _) ⟨hz, its, n, r, Heap.get?_push_size _ rfl⟩, rfl, q _ hf⟩
end

section
variable {X : Cx}
theorem o_add : OpR X (binaryOp .Add) (g2 (kw X) addD) := by
  intro pins s σ H x y v u Q I rx ry h
  obtain ⟨d, e, z, hd, he, hF, hp⟩ := h
  unfold addD at hF
  split at hF
  · cases hF
    exact op_add pins s σ H x y v u Q I rx ry ⟨_, _, rv_int hd, rv_int he, pst_dat hp (.int _)⟩
  · split at hF
    · rename_i hz
      cases hF
      exact op_add_str pins s σ H x y v u Q I rx ry ⟨_, _, rv_str hd, rv_str he, hz, pst_dat hp (.str _)⟩
    · cases hF
  · split at hF
    · rename_i hz
      cases hF
      obtain ⟨a, vs, rfl, h1, h2⟩ := hd
      obtain ⟨b, ws, rfl, h3, h4⟩ := he
      cases rx
      cases ry
      obtain ⟨z1, its, n, r, hl, e1⟩ := inv_lst I h1
      obtain ⟨z2, its2, n2, r2, hl2, e2⟩ := inv_lst I h3
      have hw : vs.length + ws.length ≤ sizeLine := by rw [h2.length, h4.length]; exact hz
      refine PySem.P.add_list e1 e2 ?_ (by rw [List.size_toArray, List.size_toArray]; omega)
      have ea : its.toArray ++ its2.toArray = (its ++ its2).toArray := by simp
      rw [ea]
      exact new_lst I (r.append r2) (by rw [List.length_append]; exact hw) fun p hn => pst_lst hp (h2.append h4) hn
    · cases hF
  · split at hF
    · rename_i hz
      cases hF
      obtain ⟨a, vs, rfl, h1, h2⟩ := rv_tup hd
      obtain ⟨b, ws, rfl, h3, h4⟩ := rv_tup he
      refine op_catA pins s σ H _ _ v u Q I rx ry ⟨a, b, vs, ws, rfl, rfl, SqT.of h1, SqT.of h3, by rw [h2.length, h4.length]; exact hz, fun q => ?_, fun _ q => ?_, fun _ _ p hn => ?_⟩
      · subst q
        cases h2
        exact pst_dat hp (.tup h3 h4)
      · subst q
        cases h4
        rw [List.append_nil] at hp
        exact pst_dat hp (.tup h1 h2)
      · exact pst_tup hp (h2.append h4) hn
    · cases hF
  · cases hF
theorem o_sub : OpR X (binaryOp .Sub) (g2 (kw X) subD) := by
  intro pins s σ H x y v u Q I rx ry h
  obtain ⟨d, e, z, hd, he, hF, hp⟩ := h
  unfold subD at hF
  split at hF
  · cases hF
    exact op_sub pins s σ H x y v u Q I rx ry ⟨_, _, rv_int hd, rv_int he, pst_dat hp (.int _)⟩
  · cases hF
theorem o_div : OpR X (binaryOp .FloorDiv) (g2 (kw X) divD) := by
  intro pins s σ H x y v u Q I rx ry h
  obtain ⟨d, e, z, hd, he, hF, hp⟩ := h
  unfold divD at hF
  split at hF
  · split at hF
    · rename_i hc
      cases hF
      exact op_fdivW pins s σ H x y v u Q I rx ry ⟨_, _, rv_int hd, rv_int he, hc, pst_dat hp (.int _)⟩
    · cases hF
  · cases hF
theorem o_mod : OpR X (binaryOp .Mod) (g2 (kw X) modD) := by
  intro pins s σ H x y v u Q I rx ry h
  obtain ⟨d, e, z, hd, he, hF, hp⟩ := h
  unfold modD at hF
  split at hF
  · split at hF
    · rename_i hc
      cases hF
      exact op_mod pins s σ H x y v u Q I rx ry ⟨_, _, rv_int hd, rv_int he, hc, pst_dat hp (.int _)⟩
    · cases hF
  · cases hF
theorem o_pow : OpR X (binaryOp .Pow) (g2 (kw X) powD) := by
  intro pins s σ H x y v u Q I rx ry h
  obtain ⟨d, e, z, hd, he, hF, hp⟩ := h
  unfold powD at hF
  split at hF
  · split at hF
    · rename_i hc
      cases hF
      exact op_pow pins s σ H x y v u Q I rx ry ⟨_, _, rv_int hd, rv_int he, hc, pst_dat hp (.int _)⟩
    · cases hF
  · cases hF
theorem o_neg : UnR X (unaryOp .USub) (g1 (kw X) negD) := by
  intro pins s σ H x v Q I rx h
  obtain ⟨d, z, hd, hF, hp⟩ := h
  unfold negD at hF
  split at hF
  · cases hF
    exact un_neg pins s σ H x v Q I rx ⟨_, rv_int hd, pst_dat hp (.int _)⟩
  · cases hF
theorem o_lt : OpR X (compareOp .Lt) (g2 (kw X) ltD) := by
  intro pins s σ H x y v u Q I rx ry h
  obtain ⟨d, e, z, hd, he, hF, hp⟩ := h
  unfold ltD at hF
  split at hF
  · cases hF
    exact op_lt pins s σ H x y v u Q I rx ry ⟨_, _, rv_int hd, rv_int he, pst_dat hp (.bl _)⟩
  · cases hF
    exact op_lt_str pins s σ H x y v u Q I rx ry ⟨_, _, rv_str hd, rv_str he, pst_dat hp (.bl _)⟩
  · cases hF
theorem o_le : OpR X (compareOp .LtE) (g2 (kw X) leD) := by
  intro pins s σ H x y v u Q I rx ry h
  obtain ⟨d, e, z, hd, he, hF, hp⟩ := h
  unfold leD at hF
  split at hF
  · cases hF
    exact op_le pins s σ H x y v u Q I rx ry ⟨_, _, rv_int hd, rv_int he, pst_dat hp (.bl _)⟩
  · cases hF
theorem o_gt : OpR X (compareOp .Gt) (g2 (kw X) gtD) := by
  intro pins s σ H x y v u Q I rx ry h
  obtain ⟨d, e, z, hd, he, hF, hp⟩ := h
  unfold gtD at hF
  split at hF
  · cases hF
    exact op_gt pins s σ H x y v u Q I rx ry ⟨_, _, rv_int hd, rv_int he, pst_dat hp (.bl _)⟩
  · cases hF
theorem o_ge : OpR X (compareOp .GtE) (g2 (kw X) geD) := by
  intro pins s σ H x y v u Q I rx ry h
  obtain ⟨d, e, z, hd, he, hF, hp⟩ := h
  unfold geD at hF
  split at hF
  · cases hF
    exact op_ge pins s σ H x y v u Q I rx ry ⟨_, _, rv_int hd, rv_int he, pst_dat hp (.bl _)⟩
  · cases hF
theorem rv_isN {K : KW} {H : Hp} {x : V} {d : D} (h : Rv K H x d) : decide (x = .non) = isNon d := by
  cases d with
  | non => rw [rv_non h]; rfl
  | bl b => rw [rv_bl h]; rfl
  | int b => rw [rv_int h]; rfl
  | str b => rw [rv_str h]; rfl
  | lst b => obtain ⟨a, vs, rfl, _⟩ := h; rfl
  | dK b => obtain ⟨a, vs, rfl, _⟩ := h; rfl
  | dT b => obtain ⟨a, vs, rfl, _⟩ := h; rfl
  | tup b => obtain ⟨a, vs, rfl, _⟩ := rv_tup h; rfl
  | sS b => cases (show Dv K H x (.sS b) from h); rfl
  | dN b => cases (show Dv K H x (.dN b) from h); rfl
  | scr b => cases (show Dv K H x (.scr b) from h); rfl
theorem o_is : OpR X (compareOp .Is) (g2 (kw X) isD) := by
  intro pins s σ H x y v u Q I rx ry h
  obtain ⟨d, e, z, hd, he, hF, hp⟩ := h
  unfold isD at hF
  split at hF
  · rename_i d0
    cases hF
    refine op_isN pins s σ H x y v u Q I rx ry ⟨rv_non he, ?_⟩
    rw [rv_isN hd]
    exact pst_dat hp (.bl _)
  · cases hF
    exact op_isBl pins s σ H x y v u Q I rx ry ⟨_, _, rv_bl hd, rv_bl he, pst_dat hp (.bl _)⟩
  · cases hF
theorem o_isn : OpR X (compareOp .IsNot) (g2 (kw X) isnD) := by
  intro pins s σ H x y v u Q I rx ry h
  obtain ⟨d, e, z, hd, he, hF, hp⟩ := h
  unfold isnD at hF
  split at hF
  · rename_i d0
    cases hF
    refine op_notN pins s σ H x y v u Q I rx ry ⟨rv_non he, ?_⟩
    rw [rv_isN hd]
    exact pst_dat hp (.bl _)
  · cases hF
    exact op_notBl pins s σ H x y v u Q I rx ry ⟨_, _, rv_bl hd, rv_bl he, pst_dat hp (.bl _)⟩
  · cases hF
theorem foldl_cps (x : Str) (n : Nat) : (repS x n).length = x.length * n := by
  have g : ∀ (m : Nat) (acc : Array Nat), ((List.replicate m x.cps).foldl (· ++ ·) acc).size = acc.size + x.cps.size * m := by
    intro m
    induction m with
    | zero => intro acc; simp
    | succ m ih =>
      intro acc
      rw [List.replicate_succ, List.foldl_cons, ih, Array.size_append, Nat.mul_succ]
      omega
  show ((List.replicate n x.cps).foldl (· ++ ·) #[]).size = x.cps.size * n
  rw [g n #[]]
  simp
theorem foldl_app (x : Array Nat) : ∀ (m : Nat) (acc : Array Nat), ((List.replicate m x).foldl (· ++ ·) acc).toList = acc.toList ++ (List.replicate m x.toList).flatten
  | 0, acc => by simp
  | m + 1, acc => by
    rw [List.replicate_succ, List.foldl_cons, foldl_app x m, Array.toList_append, List.replicate_succ, List.flatten_cons, List.append_assoc]
theorem repS_list (x : Str) (n : Nat) : (repS x n).cps.toList = (List.replicate n x.cps.toList).flatten := by
  show ((List.replicate n x.cps).foldl (· ++ ·) #[]).toList = _
  rw [foldl_app]
  rfl
theorem repS_val (x : Str) (n : Nat) : (if (n : Int) < 1 then (Str.empty : Str) else if ((n : Int) == 1 || x.length == 0) = true then x else repS x n) = repS x n := by
  by_cases h : (n : Int) < 1
  · have e : n = 0 := by omega
    subst e
    rfl
  · rw [if_neg h]
    by_cases h2 : ((n : Int) == 1 || x.length == 0) = true
    · rw [if_pos h2]
      apply PyProof.Rows.ext_toList
      rw [repS_list]
      rw [Bool.or_eq_true] at h2
      rcases h2 with h2 | h2
      · have e : n = 1 := by have := beq_iff_eq.mp h2; omega
        subst e
        simp
      · have e : x.cps.size = 0 := beq_iff_eq.mp h2
        have e2 : x.cps.toList = [] := by
          apply List.eq_nil_of_length_eq_zero
          rw [Array.length_toList]; exact e
        rw [e2]
        simp
    · rw [if_neg h2]
theorem o_mul_list {a : Addr} {vs : List V} {k : Int} {pins : List (Addr × Obj)} {σ : Sl} {H : Hp} {s : Shared} {t : Tok} {Q : VK} (I : Inv X pins σ H s) (h1 : Rd H a (.lst vs)) (hk : k < 2 ^ 62) (hz : vs.length * k.toNat ≤ sizeLine) (hl : -(2 ^ 62) < k)
    (q : ∀ p, H p = none → Q (.ref p) (upd H p (.lst (List.replicate k.toNat vs).flatten))) : wpAny (model X.prog X.w) X.A (binaryOp .Mult (.ref a) (.int k t)) (EP X pins σ Q) X.xe s := by
  obtain ⟨z1, its, n, r, hlen, e⟩ := inv_lst I h1
  have big : (sizeLine : Nat) ≤ (2 ^ 63 - 1) / 8 := by decide
  have sz : its.toArray.size * k.toNat ≤ sizeLine := by
    rw [List.size_toArray, hlen]
    exact hz
  have cap : ¬ its.toArray.size * k.toNat > (2 ^ 63 - 1) / 8 := by omega
  have fits : ¬ (!Builtin.List.listFitsIndex k) = true := by
    rw [fitsIndex_both (by omega) (by omega)]
    exact Bool.false_ne_true
  have short : ¬ Builtin.List.listTooLong (its.toArray.size * k.toNat) = true := by
    rw [notLongL sz]
    exact Bool.false_ne_true
  have made : ((List.replicate (if its.toArray.isEmpty = true then 0 else k.toNat) its.toArray).foldl (· ++ ·) #[]) = (List.replicate k.toNat its).flatten.toArray := by
    have f : ∀ m : Nat, (List.replicate m its.toArray).foldl (· ++ ·) #[] = (List.replicate m its).flatten.toArray := fun m => by
      simpa using foldl_rep its m []
    rw [f]
    by_cases hi : its = []
    · subst hi; simp
    · rw [if_neg (by simpa using hi)]
  have last : wpAny (model X.prog X.w) X.A (call (.builtin "list.__mul__") [.ref a, .int k t]) (EP X pins σ Q) X.xe s := by
    refine call_meets F.slot_list_mul ⟨_, e, rfl⟩ F.entry_list_mul (F.args_list_mul_2 _ _) (AutoListH.list___mul___list_int_3 a its.toArray n k t fits cap short) ⟨e, ?_⟩
    rw [made]
    refine new_lst I (n := 0) (tk := s.toks) (r.rep k.toNat) ?_ q
    rw [PyProof.Rows.lm_len_rep_flat, Nat.mul_comm]
    exact hz
  refine wpAny_binaryOp_repeat_ref (T := "list") (U := "int") (by decide) ⟨_, e, rfl⟩ (fun s' => typeIs_int s' k t) noFill_list_mul F.fills_int_mul
    F.slot_int_rmul repeat_list F.slot_int_index.lookup ?_
  exact call_meets F.slot_int_rmul (typeIs_int s k t) F.entry_int_rmul (F.args_int_rmul_2 _ _) (int___rmul___int_list k t a its.toArray n) ⟨e, rfl, ⟨_, e, rfl⟩, last⟩
theorem o_mul : OpR X (binaryOp .Mult) (g2 (kw X) mulD) := by
  intro pins s σ H x y v u Q I rx ry h
  obtain ⟨d, e, z, hd, he, hF, hp⟩ := h
  unfold mulD at hF
  split at hF
  · split at hF
    · rename_i hc
      cases hF
      exact op_mulW pins s σ H x y v u Q I rx ry ⟨_, _, rv_int hd, rv_int he, hc, pst_dat hp (.int _)⟩
    · cases hF
  · split at hF
    · rename_i y k hc
      cases hF
      obtain ⟨h1, h2, h3⟩ := hc
      cases rv_str hd
      cases rv_int he
      obtain ⟨t, rfl⟩ := rx
      obtain ⟨t', rfl⟩ := ry
      have fin : ∀ tk tk', EP X pins σ Q (.str (repS y k.toNat) tk) { s with toks := tk' } := fun tk tk' => ⟨.str _, H, I.tok _, ⟨_, rfl⟩, pst_dat hp (.str _)⟩
      refine PySem.P.mul_str (by simp; omega) (fun a1 a2 => ?_) (fun a1 a2 => ?_) ?_
      · have hz : (sizeLine : Nat) = 16777216 := by decide
        intro bad
        have : (y.length : Int) * k ≤ 16777216 := by
          have e : ((y.length * k.toNat : Nat) : Int) = (y.length : Int) * k := by
            rw [Int.natCast_mul, Int.toNat_of_nonneg (by omega)]
          omega
        have h5 : ((2 : Int) ^ 63 - 1) / k + 1 ≤ (y.length : Int) := by omega
        have h6 : (((2 : Int) ^ 63 - 1) / k + 1) * k ≤ (y.length : Int) * k := Int.mul_le_mul_of_nonneg_right h5 (by omega)
        have h7 : (2 : Int) ^ 63 - 1 < (((2 : Int) ^ 63 - 1) / k + 1) * k := Int.lt_ediv_add_one_mul_self _ (by omega)
        omega
      · unfold Builtin.Str.tooLong
        exact decide_eq_false (by omega)
      · by_cases h0 : k < 1
        · rw [if_pos h0]
          have e : k.toNat = 0 := by omega
          rw [e] at fin
          exact ⟨by decide, fin _ _⟩
        · rw [if_neg h0]
          have ek : ((k.toNat : Nat) : Int) = k := Int.toNat_of_nonneg (by omega)
          have rv := repS_val y k.toNat
          rw [ek, if_neg h0] at rv
          by_cases h4 : (k == 1 || y.length == 0) = true
          · rw [if_pos h4] at rv ⊢
            rw [← rv] at fin
            exact fin _ _
          · rw [if_neg h4] at rv ⊢
            refine ⟨?_, fin _ _⟩
            have := foldl_cps y k.toNat
            show (repS y k.toNat).length ≤ sizeLine
            omega
    · cases hF
  · split at hF
    · rename_i xs k hc
      cases hF
      obtain ⟨h1, h2, h3⟩ := hc
      obtain ⟨a, vs, rfl, h4, h5⟩ := hd
      cases rv_int he
      cases rx
      obtain ⟨t', rfl⟩ := ry
      exact o_mul_list I h4 h1 (by rw [h5.length]; exact h2) h3 fun p hn => pst_lst hp (h5.replicate _) hn
    · cases hF
  · split at hF
    · rename_i xs k hc
      cases hF
      obtain ⟨h1, h2, h3, h4⟩ := hc
      obtain ⟨a, vs, rfl, h5, h6⟩ := rv_tup hd
      refine op_repT pins s σ H _ y v u Q I rx ry ⟨a, k, vs, rfl, rv_int he, SqT.of h5, fun q => ?_, h1, h2, by rw [h6.length]; exact h4, fun p hn => pst_tup hp (h6.replicate _) hn⟩
      subst q
      cases h6
      exact h3 rfl
    · cases hF
  · cases hF
end
end DL

/-! DL4: ==, !=, in, not in, subscripts, isinstance, len on data. -/
namespace DL
open PySem PySem.Spec PyProof.Rows L2

mutual
def D.pd : D → Option PyData
  | .non => some .none
  | .bl b => some (.bool b)
  | .int i => some (.int i)
  | .str x => some (.str x)
  | .lst xs => (D.pds xs).map .list
  | .tup xs => (D.pds xs).map .tuple
  | .dK _ => none
  | .dT _ => none
  | .sS _ => none
  | .dN _ => none
  | .scr _ => none
def D.pds : List D → Option (List PyData)
  | [] => some []
  | d :: ds => (D.pd d).bind fun p => (D.pds ds).bind fun ps => some (p :: ps)
end
mutual
theorem pd_plain : ∀ (d : D) (p : PyData), d.pd = some p → p.plain = true
  | .non, _, h => by cases h; rfl
  | .bl _, _, h => by cases h; rfl
  | .int _, _, h => by cases h; rfl
  | .str _, _, h => by cases h; rfl
  | .lst xs, p, h => by
    simp only [D.pd, Option.map_eq_some_iff] at h
    obtain ⟨ps, h1, rfl⟩ := h
    simp only [PyData.plain]
    exact pds_plain xs ps h1
  | .tup xs, p, h => by
    simp only [D.pd, Option.map_eq_some_iff] at h
    obtain ⟨ps, h1, rfl⟩ := h
    simp only [PyData.plain]
    exact pds_plain xs ps h1
  | .dK _, _, h => by cases h
  | .dT _, _, h => by cases h
  | .sS _, _, h => by cases h
  | .dN _, _, h => by cases h
  | .scr _, _, h => by cases h
theorem pds_plain : ∀ (ds : List D) (ps : List PyData), D.pds ds = some ps → PyData.plainAll ps = true
  | [], _, h => by cases h; rfl
  | d :: ds, ps, h => by
    simp only [D.pds, Option.bind_eq_some_iff] at h
    obtain ⟨p, h1, qs, h2, h3⟩ := h
    cases h3
    simp only [PyData.plainAll, pd_plain d p h1, pds_plain ds qs h2, Bool.and_self]
end
section
variable {X : Cx} {pins : List (Addr × Obj)} {σ : Sl} {H : Hp} {s : Shared}
mutual
theorem dv_reads (I : Inv X pins σ H s) : ∀ (d : D) (p : PyData) (v : V) (u : Value), d.pd = some p → Dv (kw X) H v d → RelV v u → ∃ as, Reads s.heap u p as
  | .non, _, _, _, h, .non, r => by
    cases h
    cases r
    exact ⟨_, Reads.none⟩
  | .bl b, _, _, _, h, .bl _, r => by
    cases h
    cases r
    exact ⟨_, Reads.bool b⟩
  | .int b, _, _, _, h, .int _, r => by
    cases h
    obtain ⟨t, rfl⟩ := r
    exact ⟨_, Reads.int b t⟩
  | .str b, _, _, _, h, .str _, r => by
    cases h
    obtain ⟨t, rfl⟩ := r
    exact ⟨_, Reads.str b t⟩
  | .lst xs, _, _, _, h, .lst h1 h2, r => by
    simp only [D.pd, Option.map_eq_some_iff] at h
    obtain ⟨ps, e, rfl⟩ := h
    cases r
    obtain ⟨_, its, n, rv, _, ho⟩ := inv_lst I h1.rd
    obtain ⟨as, q⟩ := dvs_reads I xs ps _ its e h2 rv
    exact ⟨_, Reads.list ho rfl rfl q⟩
  | .tup xs, _, _, _, h, .tup h1 h2, r => by
    simp only [D.pd, Option.map_eq_some_iff] at h
    obtain ⟨ps, e, rfl⟩ := h
    cases r
    obtain ⟨its, rv, ⟨o, ho, hc, n, hd⟩, _⟩ := I.tuple (SqT.of h1)
    obtain ⟨as, q⟩ := dvs_reads I xs ps _ its e h2 rv
    exact ⟨_, Reads.tuple ho hc hd q⟩
theorem dvs_reads (I : Inv X pins σ H s) : ∀ (ds : List D) (ps : List PyData) (vs : List V) (us : List Value), D.pds ds = some ps → Dvs (kw X) H vs ds → Vals vs us → ∃ as, ReadsAll s.heap us ps as
  | [], _, _, _, h, .nil, r => by
    cases h
    cases r
    exact ⟨_, ReadsAll.nil⟩
  | d :: ds, _, _, _, h, .cons h1 h2, r => by
    simp only [D.pds, Option.bind_eq_some_iff] at h
    obtain ⟨p, e1, qs, e2, e3⟩ := h
    cases e3
    cases r with
    | cons r1 r2 =>
      obtain ⟨as, q1⟩ := dv_reads I d p _ _ e1 h1 r1
      obtain ⟨bs, q2⟩ := dvs_reads I ds qs _ _ e2 h2 r2
      exact ⟨_, ReadsAll.cons q1 q2⟩
end
theorem rv_reads (I : Inv X pins σ H s) {d : D} {p : PyData} {v : V} {u : Value} (e : d.pd = some p) (h : Rv (kw X) H v d) (r : RelV v u) : ∃ as, Reads s.heap u p as := by
  cases d with
  | lst xs =>
    obtain ⟨a, vs, rfl, h1, h2⟩ := h
    simp only [D.pd, Option.map_eq_some_iff] at e
    obtain ⟨ps, e, rfl⟩ := e
    cases r
    obtain ⟨_, its, n, rv, _, ho⟩ := inv_lst I h1
    obtain ⟨as, q⟩ := dvs_reads I xs ps _ its e h2 rv
    exact ⟨_, Reads.list ho rfl rfl q⟩
  | dK _ => cases e
  | dT _ => cases e
  | sS _ => cases e
  | dN _ => cases e
  | scr _ => cases e
  | non => exact dv_reads I _ _ _ _ e h r
  | bl _ => exact dv_reads I _ _ _ _ e h r
  | int _ => exact dv_reads I _ _ _ _ e h r
  | str _ => exact dv_reads I _ _ _ _ e h r
  | tup _ => exact dv_reads I _ _ _ _ e h r
end

/-! ### dicts -/
def getK {κ : Type} [DecidableEq κ] (kvs : List (κ × D)) (k : κ) : Option D := (kvs.find? fun kv => decide (kv.1 = k)).map (·.2)
def toKey : D → Option Key
  | .int i => some (.inl i)
  | .str x => some (.inr x)
  | _ => none
def toKeys : List D → Option (List Key)
  | [] => some []
  | d :: ds => (toKey d).bind fun k => (toKeys ds).bind fun ks => some (k :: ks)
def keyD : Key → D
  | .inl i => .int i
  | .inr x => .str x
section
variable {K : KW} {H : Hp} {κ : Type} [DecidableEq κ]
theorem getK_rel : ∀ {kv : List (κ × V)} {kvs : List (κ × D)} (k : κ), kv.map (·.1) = kvs.map (·.1) → Dvs K H (kv.map (·.2)) (kvs.map (·.2)) →
    (valV kv k = none ∧ getK kvs k = none) ∨ ∃ v d, valV kv k = some v ∧ getK kvs k = some d ∧ Dv K H v d
  | [], [], _, _, _ => .inl ⟨rfl, rfl⟩
  | [], _ :: _, _, h, _ => by simp at h
  | _ :: _, [], _, h, _ => by simp at h
  | p :: r, q :: t, k, h, hd => by
    simp only [List.map_cons, List.cons.injEq] at h hd
    obtain ⟨h1, h2⟩ := h
    cases hd with
    | cons d1 d2 =>
      by_cases e : p.1 = k
      · refine .inr ⟨p.2, q.2, valV_pos e, ?_, d1⟩
        unfold getK
        rw [List.find?_cons, show decide (q.1 = k) = true from decide_eq_true (h1 ▸ e)]
        rfl
      · have e2 : valV (p :: r) k = valV r k := valV_neg e
        have e3 : getK (q :: t) k = getK t k := by
          unfold getK
          rw [List.find?_cons, show decide (q.1 = k) = false from decide_eq_false (h1 ▸ e)]
        rw [e2, e3]
        exact getK_rel k h2 d2
theorem dv_key {v : V} {d : D} {k : Key} (h : toKey d = some k) (hd : Dv K H v d) : v = kV k := by
  cases hd <;> simp only [toKey] at h <;> cases h <;> rfl
theorem dvs_keys : ∀ {vs : List V} {ds : List D} {ks : List Key}, toKeys ds = some ks → Dvs K H vs ds → vs = ks.map kV
  | _, _, _, h, .nil => by
    cases h
    rfl
  | _, _, _, h, .cons h1 h2 => by
    simp only [toKeys, Option.bind_eq_some_iff] at h
    obtain ⟨k, e1, ks, e2, e3⟩ := h
    cases e3
    rw [dv_key e1 h1, dvs_keys e2 h2]
    rfl
theorem rv_key {v : V} {d : D} {k : Key} (h : toKey d = some k) (hd : Rv K H v d) : v = kV k := by
  cases d <;> simp only [toKey] at h <;> cases h
  · exact rv_int hd
  · exact rv_str hd
end

def strIn (x y : Str) : Bool := !(Builtin.Str.occurrences y x 0 y.length 1).isEmpty
def eqD (d e : D) : Option Bool := match d.pd, e.pd with
  | some p, some q => if min p.depth q.depth ≤ 60 then some (PyData.eqv p q) else none
  | _, _ => none
def inSeq (d : D) (xs : List D) : Option Bool := match d.pd, D.pds xs with
  | some p, some ps => if min (PyData.depthAll ps) p.depth ≤ 60 then some (ps.any fun y => PyData.eqv y p) else none
  | _, _ => none
def inD : D → D → Option Bool
  | .str x, .str y => some (strIn x y)
  | .tup ks, .dT kvs => (toKeys ks).map fun k => (getK kvs k).isSome
  | d, .lst xs => inSeq d xs
  | d, .tup xs => inSeq d xs
  | d, .dK kvs => (toKey d).map fun k => (getK kvs k).isSome
  | _, _ => none
def asB (f : D → D → Option Bool) (neg : Bool) : D → D → Option SV := fun d e => (f d e).map fun b => .dat (.bl (if neg then !b else b))
def ixD : D → D → Option SV
  | .scr ns, .int i => (atI ns i).map fun n => .dat (.int n)
  | .lst xs, .int i => (atI xs i).map .dat
  | .tup xs, .int i => (atI xs i).map .dat
  | .str x, .int i => if x.length ≤ sizeLine then (atI x.cps.toList i).map fun c => .dat (.str ⟨#[c]⟩) else none
  | .dT kvs, .tup ks => (toKeys ks).bind fun k => (getK kvs k).map .dat
  | .dK kvs, d => (toKey d).bind fun k => (getK kvs k).map .dat
  | .dN kvs, .str x => (getK kvs (some (.inr x))).map .dat
  | _, _ => none
section
variable {K : KW} {H : Hp}
theorem dvs_atI {vs : List V} {ds : List D} {i : Int} {d : D} (h : Dvs K H vs ds) (e : atI ds i = some d) : ∃ v, atI vs i = some v ∧ Dv K H v d := by
  unfold atI at e ⊢
  rw [h.length]
  obtain ⟨j, e1, e2⟩ := Option.bind_eq_some_iff.mp e
  rw [e1]
  obtain ⟨v, e3, e4⟩ := h.get e2
  exact ⟨v, e3, e4⟩
end
section
variable {X : Cx}
theorem hu1 {A : Around} (hu : A.units + 65 < cLine) : A.units + 1 < cLine := by omega
theorem o_eq (hu : X.A.units + 64 < cLine) : OpR X (compareOp .Eq) (g2 (kw X) (asB eqD false)) := by
  intro pins s σ H x y v u Q I rx ry h
  obtain ⟨d, e, z, hd, he, hF, hp⟩ := h
  simp only [asB, Option.map_eq_some_iff] at hF
  obtain ⟨b, hF, rfl⟩ := hF
  unfold eqD at hF
  split at hF
  · rename_i p q e1 e2
    split at hF
    · rename_i hz
      cases hF
      obtain ⟨as, r1⟩ := rv_reads I e1 hd rx
      obtain ⟨bs, r2⟩ := rv_reads I e2 he ry
      exact SeqAt.eq_plain r1 r2 (pd_plain _ _ e1) (pd_plain _ _ e2) (by omega) ⟨.bl _, H, I, rfl, pst_dat hp (.bl _)⟩
    · cases hF
  · cases hF
theorem o_ne (hu : X.A.units + 64 < cLine) : OpR X (compareOp .NotEq) (g2 (kw X) (asB eqD true)) := by
  intro pins s σ H x y v u Q I rx ry h
  obtain ⟨d, e, z, hd, he, hF, hp⟩ := h
  simp only [asB, Option.map_eq_some_iff] at hF
  obtain ⟨b, hF, rfl⟩ := hF
  unfold eqD at hF
  split at hF
  · rename_i p q e1 e2
    split at hF
    · rename_i hz
      cases hF
      obtain ⟨as, r1⟩ := rv_reads I e1 hd rx
      obtain ⟨bs, r2⟩ := rv_reads I e2 he ry
      exact SeqAt.ne_plain r1 r2 (pd_plain _ _ e1) (pd_plain _ _ e2) (by omega) ⟨.bl _, H, I, rfl, pst_dat hp (.bl _)⟩
    · cases hF
  · cases hF
theorem dget_K {H : Hp} {a : Addr} {kv : List (Key × V)} {kvs : List (Key × D)} {k : Key} (h : Rd H a (.dK kv)) (e : kv.map (·.1) = kvs.map (·.1)) (hd : Dvs (kw X) H (kv.map (·.2)) (kvs.map (·.2))) :
    ∃ o, DGet H a (kV k) o ∧ ((o = none ∧ getK kvs k = none) ∨ ∃ v d, o = some v ∧ getK kvs k = some d ∧ Dv (kw X) H v d) := ⟨_, .inl ⟨kv, k, h, rfl, rfl⟩, getK_rel k e hd⟩
theorem dget_T {H : Hp} {a b : Addr} {kv : List (List Key × V)} {kvs : List (List Key × D)} {k : List Key} (h : Rd H a (.dT kv)) (hb : H b = some (.tup (k.map kV))) (e : kv.map (·.1) = kvs.map (·.1)) (hd : Dvs (kw X) H (kv.map (·.2)) (kvs.map (·.2))) :
    ∃ o, DGet H a (.ref b) o ∧ ((o = none ∧ getK kvs k = none) ∨ ∃ v d, o = some v ∧ getK kvs k = some d ∧ Dv (kw X) H v d) := ⟨_, .inr ⟨kv, k, b, h, rfl, hb, rfl⟩, getK_rel k e hd⟩
theorem isSome_rel {K : KW} {H : Hp} {o : Option V} {q : Option D} (h : (o = none ∧ q = none) ∨ ∃ v d, o = some v ∧ q = some d ∧ Dv K H v d) : o.isSome = q.isSome := by
  rcases h with ⟨rfl, rfl⟩ | ⟨v, d, rfl, rfl, _⟩ <;> rfl
theorem inSeq_run {xs : List D} {d : D} {b : Bool} {vs : List V} {H : Hp} (hF : inSeq d xs = some b) : ∃ p ps, d.pd = some p ∧ D.pds xs = some ps ∧ min (PyData.depthAll ps) p.depth ≤ 60 ∧ b = ps.any fun y => PyData.eqv y p := by
  unfold inSeq at hF
  split at hF
  · rename_i p ps e1 e2
    split at hF
    · rename_i hz
      cases hF
      exact ⟨p, ps, e1, e2, hz, rfl⟩
    · cases hF
  · cases hF
theorem o_in (hu : X.A.units + 64 < cLine) : OpR X (compareOp .In) (g2 (kw X) (asB inD false)) := by
  intro pins s σ H x y v u Q I rx ry h
  obtain ⟨d, e, z, hd, he, hF, hp⟩ := h
  simp only [asB, Option.map_eq_some_iff] at hF
  obtain ⟨b, hF, rfl⟩ := hF
  unfold inD at hF
  split at hF
  · cases hF
    exact op_in_str pins s σ H x y v u Q I rx ry ⟨_, _, rv_str hd, rv_str he, pst_dat hp (.bl _)⟩
  · simp only [Option.map_eq_some_iff] at hF
    obtain ⟨k, e1, rfl⟩ := hF
    obtain ⟨a, vs, rfl, h1, h2⟩ := rv_tup hd
    obtain ⟨c, kv, rfl, h3, h4, h5⟩ := he
    rw [dvs_keys e1 h2] at h1
    obtain ⟨o, g, q⟩ := dget_T (X := X) h3 h1 h4 h5
    cases (show u = Value.ref c from ry)
    refine d_in (by omega) I g rx fun s' I' => ⟨.bl _, H, I', rfl, ?_⟩
    rw [isSome_rel q]
    exact pst_dat hp (.bl _)
  · obtain ⟨p, ps, e1, e2, hz, rfl⟩ := inSeq_run (H := H) (vs := []) hF
    obtain ⟨as, r1⟩ := rv_reads I e1 hd rx
    obtain ⟨bs, r2⟩ := rv_reads (p := .list ps) I (by simp only [D.pd, e2]; rfl) he ry
    exact SeqAt.in_list_data r2 r1 (pds_plain _ _ e2) (pd_plain _ _ e1) (by omega) ⟨.bl _, H, I, rfl, pst_dat hp (.bl _)⟩
  · obtain ⟨p, ps, e1, e2, hz, rfl⟩ := inSeq_run (H := H) (vs := []) hF
    obtain ⟨as, r1⟩ := rv_reads I e1 hd rx
    obtain ⟨bs, r2⟩ := rv_reads (p := .tuple ps) I (by simp only [D.pd, e2]; rfl) he ry
    exact SeqAt.in_tuple_data r2 r1 (pds_plain _ _ e2) (pd_plain _ _ e1) (by omega) ⟨.bl _, H, I, rfl, pst_dat hp (.bl _)⟩
  · simp only [Option.map_eq_some_iff] at hF
    obtain ⟨k, e1, rfl⟩ := hF
    obtain ⟨c, kv, rfl, h3, h4, h5⟩ := he
    obtain ⟨o, g, q⟩ := dget_K (X := X) (k := k) h3 h4 h5
    cases (show u = Value.ref c from ry)
    rw [rv_key e1 hd] at rx
    refine d_in (by omega) I g rx fun s' I' => ⟨.bl _, H, I', rfl, ?_⟩
    rw [isSome_rel q]
    exact pst_dat hp (.bl _)
  · cases hF
theorem o_nin (hu : X.A.units + 64 < cLine) : OpR X (compareOp .NotIn) (g2 (kw X) (asB inD true)) := by
  intro pins s σ H x y v u Q I rx ry h
  obtain ⟨d, e, z, hd, he, hF, hp⟩ := h
  simp only [asB, Option.map_eq_some_iff] at hF
  obtain ⟨b, hF, rfl⟩ := hF
  unfold inD at hF
  split at hF
  · cases hF
    exact op_notin_str pins s σ H x y v u Q I rx ry ⟨_, _, rv_str hd, rv_str he, pst_dat hp (.bl _)⟩
  · simp only [Option.map_eq_some_iff] at hF
    obtain ⟨k, e1, rfl⟩ := hF
    obtain ⟨a, vs, rfl, h1, h2⟩ := rv_tup hd
    obtain ⟨c, kv, rfl, h3, h4, h5⟩ := he
    rw [dvs_keys e1 h2] at h1
    obtain ⟨o, g, q⟩ := dget_T (X := X) h3 h1 h4 h5
    cases (show u = Value.ref c from ry)
    refine d_notIn (by omega) I g rx fun s' I' => ⟨.bl _, H, I', rfl, ?_⟩
    rw [isSome_rel q]
    exact pst_dat hp (.bl _)
  · obtain ⟨p, ps, e1, e2, hz, rfl⟩ := inSeq_run (H := H) (vs := []) hF
    obtain ⟨as, r1⟩ := rv_reads I e1 hd rx
    obtain ⟨bs, r2⟩ := rv_reads (p := .list ps) I (by simp only [D.pd, e2]; rfl) he ry
    exact SeqAt.notIn_list_data r2 r1 (pds_plain _ _ e2) (pd_plain _ _ e1) (by omega) ⟨.bl _, H, I, rfl, pst_dat hp (.bl _)⟩
  · obtain ⟨p, ps, e1, e2, hz, rfl⟩ := inSeq_run (H := H) (vs := []) hF
    obtain ⟨as, r1⟩ := rv_reads I e1 hd rx
    obtain ⟨bs, r2⟩ := rv_reads (p := .tuple ps) I (by simp only [D.pd, e2]; rfl) he ry
    exact SeqAt.notIn_tuple_data r2 r1 (pds_plain _ _ e2) (pd_plain _ _ e1) (by omega) ⟨.bl _, H, I, rfl, pst_dat hp (.bl _)⟩
  · simp only [Option.map_eq_some_iff] at hF
    obtain ⟨k, e1, rfl⟩ := hF
    obtain ⟨c, kv, rfl, h3, h4, h5⟩ := he
    obtain ⟨o, g, q⟩ := dget_K (X := X) (k := k) h3 h4 h5
    cases (show u = Value.ref c from ry)
    rw [rv_key e1 hd] at rx
    refine d_notIn (by omega) I g rx fun s' I' => ⟨.bl _, H, I', rfl, ?_⟩
    rw [isSome_rel q]
    exact pst_dat hp (.bl _)
  · cases hF
theorem nk_val {kv : List (NK × V)} {vs : List (NK × Value)} (r : Paired (fun (p : NK × V) (q : NK × Value) => p.1 = q.1 ∧ RelV p.2 q.2) kv vs) {k : NK} {v : V} (e : valV kv k = some v) : ∃ u, valueAt vs k = some u ∧ RelV v u := by
  induction r with
  | nil => cases e
  | @cons p q ps qs h t ih =>
    unfold valueAt
    by_cases z : p.1 = k
    · rw [valV_pos z] at e
      cases e
      refine ⟨q.2, ?_, h.2⟩
      rw [List.find?_cons, show decide (q.1 = k) = true from decide_eq_true (h.1 ▸ z)]
      rfl
    · rw [valV_neg z] at e
      obtain ⟨u, e1, e2⟩ := ih e
      refine ⟨u, ?_, e2⟩
      rw [List.find?_cons, show decide (q.1 = k) = false from decide_eq_false (h.1 ▸ z)]
      exact e1
theorem dn_of {P : Program} {w : World} {h : Heap} {a : Addr} {o : Obj} {kv : List (NK × V)} (ho : h.get? a = some o) (D : DicN P w o kv) : ∃ vs, h.DictOf (nkKind P w) a vs ∧ Paired (fun (p : NK × V) (q : NK × Value) => p.1 = q.1 ∧ RelV p.2 q.2) kv vs := by
  obtain ⟨es, ep, vs, e1, e2, e3, e4, e5, e6⟩ := D.dat
  exact ⟨vs, ⟨o, es, ep, ho, D.ex, e1, e3, e4, e5⟩, e6⟩
theorem o_ix (hu : X.A.units + 64 < cLine) : IxR X (g2 (kw X) ixD) := by
  intro value slice pins s σ H x y v u Q I rx ry h hs
  obtain ⟨d, e, z, hd, he, hF, hp⟩ := h
  unfold ixD at hF
  split at hF
  · simp only [Option.map_eq_some_iff] at hF
    obtain ⟨n, e1, rfl⟩ := hF
    rename_i ns i
    cases (show Dv (kw X) H x (.scr ns) from hd) with
    | scr hs1 =>
      have e2 : atI (ns.map V.int) i = some (.int n) := by
        unfold atI at e1 ⊢
        rw [List.length_map]
        obtain ⟨j, j1, j2⟩ := Option.bind_eq_some_iff.mp e1
        rw [j1]
        show (ns.map V.int)[j]? = _
        rw [List.getElem?_map, j2]; rfl
      exact ix_list value slice pins s σ H _ y v u Q I rx ry ⟨_, _, _, _, rfl, rv_int he, hs1.sq, e2, pst_dat hp (.int _)⟩ hs
  · simp only [Option.map_eq_some_iff] at hF
    obtain ⟨w, e1, rfl⟩ := hF
    obtain ⟨a, vs, rfl, h1, h2⟩ := hd
    obtain ⟨t, e2, ht⟩ := dvs_atI h2 e1
    exact ix_list value slice pins s σ H _ y v u Q I rx ry ⟨a, vs, _, t, rfl, rv_int he, .inl h1, e2, pst_dat hp ht⟩ hs
  · simp only [Option.map_eq_some_iff] at hF
    obtain ⟨w, e1, rfl⟩ := hF
    obtain ⟨a, vs, rfl, h1, h2⟩ := rv_tup hd
    obtain ⟨t, e2, ht⟩ := dvs_atI h2 e1
    exact ix_tup value slice pins s σ H _ y v u Q I rx ry ⟨a, vs, _, t, rfl, rv_int he, SqT.of h1, e2, pst_dat hp ht⟩ hs
  · split at hF
    · rename_i hz
      simp only [Option.map_eq_some_iff] at hF
      obtain ⟨w, e1, rfl⟩ := hF
      exact ix_str value slice pins s σ H x y v u Q I rx ry ⟨_, _, w, rv_str hd, rv_int he, hz, e1, pst_dat hp (.str _)⟩ hs
    · cases hF
  · simp only [Option.bind_eq_some_iff, Option.map_eq_some_iff] at hF
    obtain ⟨k, e1, w, e2, rfl⟩ := hF
    obtain ⟨c, kv, rfl, h3, h4, h5⟩ := hd
    obtain ⟨a, vs, rfl, h1, h2⟩ := rv_tup he
    rw [dvs_keys e1 h2] at h1
    obtain ⟨o, g, q⟩ := dget_T (X := X) h3 h1 h4 h5
    cases (show v = Value.ref c from rx)
    rcases q with ⟨_, q⟩ | ⟨t, w', rfl, q, ht⟩
    · rw [q] at e2; cases e2
    · rw [q] at e2; cases e2
      exact tail_any (dict_typeIs I g) slot_dict_getitem.lookup (d_getItem (by omega) I g ry fun w' s' I' r' => ⟨t, H, I', r', pst_dat hp ht⟩) hs
  · simp only [Option.bind_eq_some_iff, Option.map_eq_some_iff] at hF
    obtain ⟨k, e1, w, e2, rfl⟩ := hF
    obtain ⟨c, kv, rfl, h3, h4, h5⟩ := hd
    obtain ⟨o, g, q⟩ := dget_K (X := X) (k := k) h3 h4 h5
    cases (show v = Value.ref c from rx)
    rw [rv_key e1 he] at ry
    rcases q with ⟨_, q⟩ | ⟨t, w', rfl, q, ht⟩
    · rw [q] at e2; cases e2
    · rw [q] at e2; cases e2
      exact tail_any (dict_typeIs I g) slot_dict_getitem.lookup (d_getItem (by omega) I g ry fun w' s' I' r' => ⟨t, H, I', r', pst_dat hp ht⟩) hs
  · rename_i kvs x'
    simp only [Option.map_eq_some_iff] at hF
    obtain ⟨w, e2, rfl⟩ := hF
    cases (show Dv (kw X) H x (.dN kvs) from hd) with
    | dN h1 h2 h3 h4 h5 =>
      rename_i a _ _ kv
      cases (show v = Value.ref _ from rx)
      obtain ⟨g1, _⟩ := I.hok _ _ h1
      obtain ⟨vs, dd, rel⟩ := dn_of g1 h2
      rw [rv_str he] at ry
      rcases getK_rel (some (.inr x')) h4 h5 with ⟨_, q⟩ | ⟨t, w', q1, q, ht⟩
      · rw [q] at e2; cases e2
      · rw [q] at e2; cases e2
        obtain ⟨u', e3, e4⟩ := nk_val rel q1
        exact tail_any dd.typeIs slot_dict_getitem.lookup (wpAny_getItem_of (nk_is (k := some (.inr x')) ry) dd.mapOf e3 ⟨t, H, I.tok _, e4, pst_dat hp ht⟩) hs
  · cases hF
end
end DL

/-! DL5: built-in functions on data: len, abs, max, min, int, sum, all, any, isinstance. -/
namespace DL
open PySem PySem.Spec PyProof.Rows L2

section
variable {K : KW} {H : Hp}
theorem rvs1 {xs : List V} {d : D} (h : Rvs K H xs [d]) : ∃ x, xs = [x] ∧ Rv K H x d := by
  cases h with
  | cons h t =>
    cases t
    exact ⟨_, rfl, h⟩
theorem rvs2 {xs : List V} {d e : D} (h : Rvs K H xs [d, e]) : ∃ x y, xs = [x, y] ∧ Rv K H x d ∧ Rv K H y e := by
  cases h with
  | cons h t =>
    cases t with
    | cons h2 t =>
      cases t
      exact ⟨_, _, rfl, h, h2⟩
theorem rvs0 {xs : List V} (h : Rvs K H xs []) : xs = [] := by
  cases h
  rfl
end
def lenF : List D → Option SV
  | [.str x] => if x.length ≤ sizeLine then some (.dat (.int x.length)) else none
  | [.lst xs] => some (.dat (.int xs.length))
  | [.scr xs] => some (.dat (.int xs.length))
  | [.tup xs] => some (.dat (.int xs.length))
  | [.dK xs] => some (.dat (.int xs.length))
  | [.dT xs] => some (.dat (.int xs.length))
  | _ => none
def absF : List D → Option SV
  | [.int i] => some (.dat (.int (if i < 0 then -i else i)))
  | _ => none
def maxF : List D → Option SV
  | [.int i, .int j] => some (.dat (.int (if j > i then j else i)))
  | _ => none
def minF : List D → Option SV
  | [.int i, .int j] => some (.dat (.int (if j < i then j else i)))
  | _ => none
def intF : List D → Option SV
  | [.int i] => some (.dat (.int i))
  | [.bl b] => some (.dat (.int (if b then 1 else 0)))
  | _ => none
def intsOf : List D → Option (List Int)
  | [] => some []
  | .int i :: r => (intsOf r).map (i :: ·)
  | _ => none
def blsOf : List D → Option (List Bool)
  | [] => some []
  | .bl i :: r => (blsOf r).map (i :: ·)
  | _ => none
def strsOf : List D → Option (List Str)
  | [] => some []
  | .str i :: r => (strsOf r).map (i :: ·)
  | _ => none
theorem intsOf_eq : ∀ {ds : List D} {ns : List Int}, intsOf ds = some ns → ds = ns.map D.int
  | [], _, h => by cases h; rfl
  | .int i :: r, _, h => by
    simp only [intsOf, Option.map_eq_some_iff] at h
    obtain ⟨ns, h1, rfl⟩ := h
    rw [intsOf_eq h1]; rfl
theorem blsOf_eq : ∀ {ds : List D} {ns : List Bool}, blsOf ds = some ns → ds = ns.map D.bl
  | [], _, h => by cases h; rfl
  | .bl i :: r, _, h => by
    simp only [blsOf, Option.map_eq_some_iff] at h
    obtain ⟨ns, h1, rfl⟩ := h
    rw [blsOf_eq h1]; rfl
theorem strsOf_eq : ∀ {ds : List D} {ns : List Str}, strsOf ds = some ns → ds = ns.map D.str
  | [], _, h => by cases h; rfl
  | .str i :: r, _, h => by
    simp only [strsOf, Option.map_eq_some_iff] at h
    obtain ⟨ns, h1, rfl⟩ := h
    rw [strsOf_eq h1]; rfl
theorem intsOf_map : ∀ ns : List Int, intsOf (ns.map D.int) = some ns
  | [] => rfl
  | n :: r => by simp [intsOf, intsOf_map r]
theorem blsOf_map : ∀ ns : List Bool, blsOf (ns.map D.bl) = some ns
  | [] => rfl
  | n :: r => by simp [blsOf, blsOf_map r]
theorem strsOf_map : ∀ ns : List Str, strsOf (ns.map D.str) = some ns
  | [] => rfl
  | n :: r => by simp [strsOf, strsOf_map r]
theorem Dvs.bls_inv {K : KW} {H : Hp} : ∀ {ns : List Bool} {vs : List V}, Dvs K H vs (ns.map D.bl) → vs = ns.map V.bl
  | [], _, .nil => rfl
  | n :: r, _, .cons h hs => by
    cases h
    rw [Dvs.bls_inv hs]; rfl
def sumF : List D → Option SV
  | [.lst xs] => (intsOf xs).map fun ns => .dat (.int ns.sum)
  | _ => none
def allF : List D → Option SV
  | [.lst xs] => (blsOf xs).map fun bs => .dat (.bl (bs.all id))
  | _ => none
def anyF : List D → Option SV
  | [.lst xs] => (blsOf xs).map fun bs => .dat (.bl (bs.any id))
  | _ => none
section
variable {X : Cx}
theorem c_abs : CallR X (.builtin "abs") (gN (kw X) absF) := by
  intro pins s σ H xs us Q I r h
  obtain ⟨ds, z, hd, hF, hp⟩ := h
  unfold absF at hF
  split at hF
  · cases hF
    obtain ⟨x, rfl, h1⟩ := rvs1 hd
    exact call_abs pins s σ H _ us Q I r ⟨_, by rw [rv_int h1], pst_dat hp (.int _)⟩
  · cases hF
theorem c_max (hc : X.calm = true) : CallR X (.builtin "max") (gN (kw X) maxF) := by
  intro pins s σ H xs us Q I r h
  obtain ⟨ds, z, hd, hF, hp⟩ := h
  unfold maxF at hF
  split at hF
  · cases hF
    obtain ⟨x, y, rfl, h1, h2⟩ := rvs2 hd
    exact call_max2 hc pins s σ H _ us Q I r ⟨_, _, by rw [rv_int h1, rv_int h2], pst_dat hp (.int _)⟩
  · cases hF
theorem c_min (hc : X.calm = true) : CallR X (.builtin "min") (gN (kw X) minF) := by
  intro pins s σ H xs us Q I r h
  obtain ⟨ds, z, hd, hF, hp⟩ := h
  unfold minF at hF
  split at hF
  · cases hF
    obtain ⟨x, y, rfl, h1, h2⟩ := rvs2 hd
    exact call_min2 hc pins s σ H _ us Q I r ⟨_, _, by rw [rv_int h1, rv_int h2], pst_dat hp (.int _)⟩
  · cases hF
theorem c_int : CallR X (.type "int") (gN (kw X) intF) := by
  intro pins s σ H xs us Q I r h
  obtain ⟨ds, z, hd, hF, hp⟩ := h
  unfold intF at hF
  split at hF
  · cases hF
    obtain ⟨x, rfl, h1⟩ := rvs1 hd
    exact call_int1 pins s σ H _ us Q I r (.inl ⟨_, by rw [rv_int h1], pst_dat hp (.int _)⟩)
  · cases hF
    obtain ⟨x, rfl, h1⟩ := rvs1 hd
    exact call_int1 pins s σ H _ us Q I r (.inr ⟨_, by rw [rv_bl h1], pst_dat hp (.int _)⟩)
  · cases hF
theorem c_sum (hc : X.calm = true) : CallR X (.builtin "sum") (gN (kw X) sumF) := by
  intro pins s σ H xs us Q I r h
  obtain ⟨ds, z, hd, hF, hp⟩ := h
  unfold sumF at hF
  split at hF
  · simp only [Option.map_eq_some_iff] at hF
    obtain ⟨ns, e, rfl⟩ := hF
    obtain ⟨x, rfl, a, vs, rfl, h1, h2⟩ := rvs1 hd
    rw [intsOf_eq e] at h2
    rw [Dvs.ints_inv h2] at h1
    exact cr_sum hc pins s σ H _ us Q I r ⟨a, ns, rfl, .inl h1, pst_dat hp (.int _)⟩
  · cases hF
theorem c_all (hc : X.calm = true) : CallR X (.builtin "all") (gN (kw X) allF) := by
  intro pins s σ H xs us Q I r h
  obtain ⟨ds, z, hd, hF, hp⟩ := h
  unfold allF at hF
  split at hF
  · simp only [Option.map_eq_some_iff] at hF
    obtain ⟨ns, e, rfl⟩ := hF
    obtain ⟨x, rfl, a, vs, rfl, h1, h2⟩ := rvs1 hd
    rw [blsOf_eq e] at h2
    rw [Dvs.bls_inv h2] at h1
    exact cr_all hc pins s σ H _ us Q I r ⟨a, ns, rfl, .inl h1, pst_dat hp (.bl _)⟩
  · cases hF
theorem c_any (hc : X.calm = true) : CallR X (.builtin "any") (gN (kw X) anyF) := by
  intro pins s σ H xs us Q I r h
  obtain ⟨ds, z, hd, hF, hp⟩ := h
  unfold anyF at hF
  split at hF
  · simp only [Option.map_eq_some_iff] at hF
    obtain ⟨ns, e, rfl⟩ := hF
    obtain ⟨x, rfl, a, vs, rfl, h1, h2⟩ := rvs1 hd
    rw [blsOf_eq e] at h2
    rw [Dvs.bls_inv h2] at h1
    exact cr_any hc pins s σ H _ us Q I r ⟨a, ns, rfl, .inl h1, pst_dat hp (.bl _)⟩
  · cases hF
theorem c_len : CallR X (.builtin "len") (gN (kw X) lenF) := by
  intro pins s σ H xs us Q I r h
  obtain ⟨ds, z, hd, hF, hp⟩ := h
  have hl := line63
  unfold lenF at hF
  split at hF
  · split at hF
    · rename_i hz
      cases hF
      obtain ⟨x, rfl, h1⟩ := rvs1 hd
      exact call_len pins s σ H _ us Q I r ⟨_, _, rfl, by rw [rv_str h1]; exact ⟨hz, rfl⟩, pst_dat hp (.int _)⟩
    · cases hF
  · cases hF
    obtain ⟨x, rfl, a, vs, rfl, h1, h2⟩ := rvs1 hd
    exact call_len pins s σ H _ us Q I r ⟨_, _, rfl, .inl ⟨vs, .inl h1, h2.length.symm⟩, pst_dat hp (.int _)⟩
  · rename_i ns
    cases hF
    obtain ⟨x, rfl, h0⟩ := rvs1 hd
    cases (show Dv (kw X) H x (.scr ns) from h0) with
    | scr h1 => exact call_len pins s σ H _ us Q I r ⟨_, _, rfl, .inl ⟨_, h1.sq, (List.length_map ..).symm⟩, pst_dat hp (.int _)⟩
  · cases hF
    obtain ⟨x, rfl, h0⟩ := rvs1 hd
    obtain ⟨a, vs, rfl, h1, h2⟩ := rv_tup h0
    exact call_len pins s σ H _ us Q I r ⟨_, _, rfl, .inr ⟨vs, SqT.of h1, h2.length.symm⟩, pst_dat hp (.int _)⟩
  · rename_i kvs
    cases hF
    obtain ⟨x, rfl, a, kv, rfl, h1, h2, h3⟩ := rvs1 hd
    obtain ⟨u, rfl, rx⟩ := vals1 r
    cases rx
    have e : kv.length = kvs.length := by simpa using congrArg List.length h2
    refine d_len I h1 fun t s' I' => ⟨.int _, H, I', ⟨_, rfl⟩, ?_⟩
    rw [e]
    exact pst_dat hp (.int _)
  · rename_i kvs
    cases hF
    obtain ⟨x, rfl, a, kv, rfl, h1, h2, h3⟩ := rvs1 hd
    obtain ⟨u, rfl, rx⟩ := vals1 r
    cases rx
    have e : kv.length = kvs.length := by simpa using congrArg List.length h2
    obtain ⟨z, hds, ys, rel, dd⟩ := dt_rd I.hok h1
    have e2 : kv.length = ys.length := Paired.length rel
    refine call_len_dictH hds dd (by omega) ⟨.int _, H, I.tok _, ⟨_, rfl⟩, ?_⟩
    rw [← e2, e]
    exact pst_dat hp (.int _)
  · cases hF

/-! isinstance -/
def tyN : D → String
  | .non => "NoneType"
  | .bl _ => "bool"
  | .int _ => "int"
  | .str _ => "str"
  | .lst _ => "list"
  | .tup _ => "tuple"
  | .dK _ => "dict"
  | .dT _ => "dict"
  | .sS _ => "set"
  | .dN _ => "dict"
  | .scr _ => "list"
def isiB (T : String) (d : D) : Bool := tyN d == T || (T == "int" && tyN d == "bool")
def isSetD : D → Bool
  | .sS _ => true
  | _ => false
def isiD (T : String) (d : D) : Option SV := if T ∈ ["int", "bool", "str", "list", "tuple", "dict"] ∧ isSetD d = false then some (.dat (.bl (isiB T d))) else none
theorem isi_kit {T : String} (h : T ∈ ["int", "bool", "str", "list", "tuple", "dict"]) : ∀ U ∈ ["NoneType", "bool", "int", "str", "list", "tuple", "dict"], kitB U T = some (U == T || (T == "int" && U == "bool")) := by
  revert T
  decide +kernel
theorem rv_kit {pins : List (Addr × Obj)} {σ : Sl} {H : Hp} {s : Shared} {x : V} {u : Value} {d : D} (hns : isSetD d = false) (I : Inv X pins σ H s) (h : Rv (kw X) H x d) (rx : RelV x u) :
    tyN d ∈ ["NoneType", "bool", "int", "str", "list", "tuple", "dict"] ∧ ∃ P : Heap → Prop, PySem.W.KitX X.K u (.type (tyN d)) P ∧ P s.heap ∧ u ≠ .builtin "__main__.__loader__#opaque" := by
  cases d with
  | non =>
    rw [rv_non h] at rx
    cases rx
    exact ⟨by simp [tyN], _, PySem.W.kitx_none, True.intro, fun z => nomatch z⟩
  | bl b =>
    rw [rv_bl h] at rx
    cases rx
    exact ⟨by simp [tyN], _, PySem.W.kitx_bool, True.intro, fun z => nomatch z⟩
  | int b =>
    rw [rv_int h] at rx
    obtain ⟨t, rfl⟩ := rx
    exact ⟨by simp [tyN], _, PySem.W.kitx_int, True.intro, fun z => nomatch z⟩
  | str b =>
    rw [rv_str h] at rx
    obtain ⟨t, rfl⟩ := rx
    exact ⟨by simp [tyN], _, PySem.W.kitx_str, True.intro, fun z => nomatch z⟩
  | lst ds =>
    obtain ⟨a, vs, rfl, h1, h2⟩ := h
    cases rx
    obtain ⟨_, its, n, _, _, e⟩ := inv_lst I h1
    exact ⟨by simp [tyN], _, PySem.W.kitx_list, ⟨_, e, rfl⟩, fun z => nomatch z⟩
  | tup ds =>
    obtain ⟨a, vs, rfl, h1, h2⟩ := rv_tup h
    cases rx
    obtain ⟨_, _, _, o, e1, e2, _⟩ := (show ObjOk X.prog X.w H s.heap a (.tup vs) from I.hok a _ h1)
    exact ⟨by simp [tyN], _, PySem.W.kitx_tuple, ⟨o, e1, e2⟩, fun z => nomatch z⟩
  | dK ds =>
    obtain ⟨a, vs, rfl, h1, h2⟩ := h
    cases rx
    obtain ⟨_, _, _, _, o, _, _, e1, e2, _⟩ := h1.ok I.hok
    exact ⟨by simp [tyN], _, PySem.W.kitx_dict, ⟨o, e1, e2.1⟩, fun z => nomatch z⟩
  | dT ds =>
    obtain ⟨a, vs, rfl, h1, h2⟩ := h
    cases rx
    obtain ⟨_, _, _, _, o, _, _, e1, e2, _⟩ := h1.ok I.hok
    exact ⟨by simp [tyN], _, PySem.W.kitx_dict, ⟨o, e1, e2.1⟩, fun z => nomatch z⟩
  | sS ds => cases hns
  | dN ds =>
    cases (show Dv (kw X) H x (.dN ds) from h) with
    | dN h1 h2 h3 h4 h5 =>
      cases rx
      obtain ⟨e1, _⟩ := I.hok _ _ h1
      exact ⟨by simp [tyN], _, PySem.W.kitx_dict, ⟨_, e1, h2.ex.1⟩, fun z => nomatch z⟩
  | scr ns =>
    cases (show Dv (kw X) H x (.scr ns) from h) with
    | scr h1 =>
      cases rx
      obtain ⟨its, _, ⟨o, n, e1, e2, _⟩, _⟩ := I.list h1.sq
      exact ⟨by simp [tyN], _, PySem.W.kitx_list, ⟨o, e1, e2⟩, fun z => nomatch z⟩
def gIsi (K : KW) (T : String) : List V → Hp → VK → Prop := fun xs H Q => ∃ x d z, xs = [x, .ty T] ∧ Rv K H x d ∧ isiD T d = some z ∧ Pst K H Q z
theorem c_isi {T : String} : CallR X (.builtin "isinstance") (gIsi (kw X) T) := by
  intro pins s σ H xs us Q I r h
  obtain ⟨x, d, z, rfl, hd, hF, hp⟩ := h
  obtain ⟨u1, u2, rfl, r1, r2⟩ := vals2 r
  cases (show u2 = .type T from r2)
  unfold isiD at hF
  split at hF
  · rename_i hT
    cases hF
    obtain ⟨m, P, Z, p, hx⟩ := rv_kit hT.2 I hd r1
    exact PySem.W.kia_one Z I.kIn p (kit_ty (isi_kit hT.1 _ m)) hx fun tk => ⟨.bl _, H, I.tok tk, rfl, pst_dat hp (.bl _)⟩
  · cases hF
theorem de_isi {R : List Nat} {e : Expr} {f : FE} {T y : Str} {U : String} {p p2 pos : Pos} (ha : DE X R e f) (hg : Gl X "isinstance") (hm : X.mg "isinstance" = none) (hg2 : Gl X y) (hm2 : X.mg y = none) (hv2 : bootBuiltins y = some (.type U))
    (hv : bootBuiltins "isinstance" = some (.builtin "isinstance") := by decide +kernel) (hn : y ≠ "__name__" := by decide) (hdb : (y == ("__debug__" : Str)) = false := by decide)
    (he : starEach [e, .Name y p2] X.env = (false, eval e X.env) :: starEach [.Name y p2] X.env := by rfl) (he2 : starEach [.Name y p2] X.env = [(false, eval (.Name y p2) X.env)] := by rfl) :
    DE X R (.Call (.Name "isinstance" p) [e, .Name y p2] [] pos) (un1 f (isiD U)) := by
  have hpl : (backTo pos (starEach [.Name y p2] X.env)).any (·.1) = false := by rw [he2]; rfl
  refine pe_imp (pe_callB (c_isi (T := U)) hg hm hv (pa_cons ha (pa_cons (pe_bltn (v := .ty U) hg2 hm2 hv2 rfl hn hdb) pa_nil he2) he) (by decide) (by decide) he hpl) fun σ H Q hq => ?_
  obtain ⟨ρ, r', ρ', ok, q, k⟩ := hq
  simp only [un1, Option.bind_eq_some_iff] at q
  obtain ⟨⟨ra, ρ1⟩, q1, d, q3, z, q5, q6⟩ := q
  cases q6
  refine ⟨ρ, ra, ρ1, ok, q1, fun v H1 k1 ok1 o1 => ?_⟩
  refine ⟨v, d, z, rfl, RvOk.rd o1 ok1 q3, q5, fun x H3 sm fr => ?_⟩
  exact k x H3 (k1.trans (Kp.same sm)) (ok1.same sm) (fr.rvOk ok1 fun b hb => k1.trk b hb)
end
end DL

/-! DL6: statements read by partial functions on environments of data; targets; loops. -/
namespace DL
open PySem PySem.Spec PyProof.Rows L2

inductive FlowD where
  | next
  | brk
  | cont
  | ret (z : SV)
  | ret2 (d : D) (x : OV)
abbrev FS := EnvD → Option (FlowD × EnvD)
/-- a body's state: H0 the heap at the entry, S the slots of the parameters that are handed on to be written, with their addresses -/
structure Bd (K : KW) (H0 : Hp) (S : List (Nat × Addr)) (σ : Sl) (H : Hp) (ρ : EnvD) : Prop where
  env : EnvOk K H σ ρ
  keep : ∀ (a : Addr) (o : HO), H0 a = some o → (∀ p ∈ S, p.2 ≠ a) → H a = some o
  trk : ∀ a : Addr, H a = none → H0 a = none
  new : ∀ (i : Nat) (a : Addr), OwnS σ ρ i a → (i, a) ∈ S ∨ H0 a = none
  refs : ∀ p ∈ S, OwnS σ ρ p.1 p.2
def Rt (K : KW) (H0 H' : Hp) (v : V) : SV → Prop
  | .dat d => Dv K H' v d
  | .own x => ∃ a, v = .ref a ∧ H0 a = none ∧ OwnAt K H' a x
/-- a new tuple of data and an own thing, which stands nowhere else -/
def Rt2 (K : KW) (H0 H' : Hp) (v : V) (d : D) (x : OV) : Prop := ∃ a w b, v = .ref a ∧ H0 a = none ∧ H' a = some (.tup [w, .ref b]) ∧ Dv K H' w d ∧ H0 b = none ∧ OwnAt K H' b x
def flowOk (K : KW) (D : Ends) (H0 : Hp) (σ' : Sl) (H' : Hp) : FlowD → Prop
  | .next => D.nx σ' H'
  | .brk => D.bk σ' H'
  | .cont => D.ct σ' H'
  | .ret z => ∀ v, Rt K H0 H' v z → D.rt v H'
  | .ret2 d x => ∀ v, Rt2 K H0 H' v d x → D.rt v H'
def tS (K : KW) (R : List Nat) (f : FS) : TS := fun D σ H => ∃ H0 S ρ fl ρ', R = S.map Prod.fst ∧ Bd K H0 S σ H ρ ∧ f ρ = some (fl, ρ') ∧ ∀ σ' H', Bd K H0 S σ' H' ρ' → Fz H H' → flowOk K D H0 σ' H' fl
abbrev DS (X : Cx) (R : List Nat) (st : Stmt) (f : FS) : Prop := PS X st (tS (kw X) R f)
abbrev DSs (X : Cx) (R : List Nat) (st : List Stmt) (f : FS) : Prop := PSs X st (tS (kw X) R f)
section
variable {X : Cx}
theorem ps_imp {e : Stmt} {t t' : TS} (h : PS X e t) (q : ∀ D σ H, t' D σ H → t D σ H) : PS X e t' := ⟨fun pins s σ H Q I x => h.run pins s σ H Q I (q Q σ H x)⟩
theorem pss_imp {e : List Stmt} {t t' : TS} (h : PSs X e t) (q : ∀ D σ H, t' D σ H → t D σ H) : PSs X e t' := ⟨fun pins s σ H Q I x => h.run pins s σ H Q I (q Q σ H x)⟩
end
section
variable {K : KW} {R : List Nat} {S : List (Nat × Addr)} {σ σ' : Sl} {ρ ρ' : EnvD} {H H' H0 : Hp} {D : Ends}
theorem Bd.step (b : Bd K H0 S σ H ρ) (k : Kp (S.map Prod.fst) σ ρ H ρ' H') (e : EnvOk K H' σ ρ') : Bd K H0 S σ H' ρ' where
  env := e
  keep := fun a o h n => k.obj a o (b.keep a o h n) fun i hi => by
    rcases b.new i a hi with z | z
    · exact n _ z rfl
    · rw [z] at h; cases h
  trk := fun a h => b.trk a (k.trk a h)
  new := fun i a h => b.new i a (k.ownS h)
  refs := fun p hp => by
    obtain ⟨⟨y, h1⟩, h2⟩ := b.refs p hp
    exact ⟨k.ref p.1 (List.mem_map_of_mem hp) y h1, h2⟩
theorem flowOk.mono {D' : Ends} {fl : FlowD} (h : flowOk K D H0 σ H fl) (h1 : D.nx σ H → D'.nx σ H) (h2 : D.bk σ H → D'.bk σ H) (h3 : D.ct σ H → D'.ct σ H) (h4 : ∀ v, D.rt v H → D'.rt v H) : flowOk K D' H0 σ H fl := by
  cases fl with
  | next => exact h1 h
  | brk => exact h2 h
  | cont => exact h3 h
  | ret z => exact fun v hv => h4 v (h v hv)
  | ret2 d x => exact fun v hv => h4 v (h v hv)
end

/-! ### blocks -/
def nextF : FS := fun ρ => some (.next, ρ)
def seqF (f g : FS) : FS := fun ρ => (f ρ).bind fun p => match p.1 with
  | .next => g p.2
  | fl => some (fl, p.2)
def ifS (c : FT) (f g : FS) : FS := fun ρ => (c ρ).bind fun p => if p.1 = true then f p.2 else g p.2
def exprF (f : FE) : FS := fun ρ => (f ρ).bind fun p => some (.next, p.2)
def retF (f : FE) : FS := fun ρ => (f ρ).bind fun p => match p.1 with
  | .dat d => some (.ret (.dat d), p.2)
  | .own x => some (.ret (.own x), p.2)
  | .slot _ => none
def retN : FS := fun ρ => some (.ret (.dat .non), ρ)
def brkF : FS := fun ρ => some (.brk, ρ)
def contF : FS := fun ρ => some (.cont, ρ)
def neverF : FS := fun _ => none
/-- a value is put into a slot -/
def putS (R : List Nat) (i : Nat) (r : RV) (ρ : EnvD) : Option EnvD := if i ∈ R then none else if i < ρ.length then match r with
  | .dat d => some (ρ.set i (some (.dat d)))
  | .own x => some (ρ.set i (some (.own x)))
  | .slot _ => none
  else none
def setF (R : List Nat) (i : Nat) (f : FE) : FS := fun ρ => (f ρ).bind fun p => (putS R i p.1 p.2).bind fun ρ' => some (.next, ρ')
def parF (R : List Nat) (i j : Nat) (f g : FE) : FS := fun ρ => (f ρ).bind fun p => (g p.2).bind fun q => (putS R i p.1 q.2).bind fun ρ1 => (putS R j q.1 ρ1).bind fun ρ2 => some (.next, ρ2)
def par3F (R : List Nat) (i j l : Nat) (f g h : FE) : FS := fun ρ => (f ρ).bind fun p => (g p.2).bind fun q => (h q.2).bind fun w => (putS R i p.1 w.2).bind fun ρ1 => (putS R j q.1 ρ1).bind fun ρ2 => (putS R l w.1 ρ2).bind fun ρ3 => some (.next, ρ3)

section
variable {X : Cx} {R : List Nat} {st : Stmt} {sts : List Stmt} {e : Expr} {f g : FS} {pos : Pos}
theorem ds_nil : DSs X R [] nextF := pss_imp pss_nil fun D σ H h => by
  obtain ⟨H0, S, ρ, fl, ρ', hR, b, q, k⟩ := h
  cases q
  exact k σ H b (Fz.refl H)
theorem ds_one (h : DS X R st f) : DSs X R [st] f := pss_one h
theorem ds_cons (h1 : DS X R st f) (h2 : DSs X R sts g) : DSs X R (st :: sts) (seqF f g) := pss_imp (pss_cons h1 h2) fun D σ H h => by
  obtain ⟨H0, S, ρ, fl, ρ', hR, b, q, k⟩ := h
  simp only [seqF, Option.bind_eq_some_iff] at q
  obtain ⟨⟨fl1, ρ1⟩, q1, q2⟩ := q
  refine ⟨H0, S, ρ, fl1, ρ1, hR, b, q1, fun σ1 H1 b1 z1 => ?_⟩
  cases fl1 with
  | next => exact ⟨H0, S, ρ1, fl, ρ', hR, b1, q2, fun σ2 H2 b2 z2 => k σ2 H2 b2 (z1.trans z2)⟩
  | brk => cases q2; exact k σ1 H1 b1 z1
  | cont => cases q2; exact k σ1 H1 b1 z1
  | ret z => cases q2; exact k σ1 H1 b1 z1
  | ret2 d x => cases q2; exact k σ1 H1 b1 z1
theorem ds_pass : DS X R (.Pass pos) nextF := ps_imp ps_pass fun D σ H h => by
  obtain ⟨H0, S, ρ, fl, ρ', hR, b, q, k⟩ := h
  cases q
  exact k σ H b (Fz.refl H)
theorem ds_doc {x : Str} {j : Nat} {pos' : Pos} : DS X R (.Expr (.Constant (.str x) j pos) pos') nextF := ps_imp ps_doc fun D σ H h => by
  obtain ⟨H0, S, ρ, fl, ρ', hR, b, q, k⟩ := h
  cases q
  exact k σ H b (Fz.refl H)
theorem ds_break : DS X R (.Break pos) brkF := ps_imp ps_break fun D σ H h => by
  obtain ⟨H0, S, ρ, fl, ρ', hR, b, q, k⟩ := h
  cases q
  exact k σ H b (Fz.refl H)
theorem ds_cont : DS X R (.Continue pos) contF := ps_imp ps_continue fun D σ H h => by
  obtain ⟨H0, S, ρ, fl, ρ', hR, b, q, k⟩ := h
  cases q
  exact k σ H b (Fz.refl H)
theorem ds_never : DS X R st neverF := ps_imp ps_never fun D σ H h => by
  obtain ⟨H0, S, ρ, fl, ρ', hR, b, q, k⟩ := h
  cases q
theorem dss_never : DSs X R sts neverF := pss_imp pss_never fun D σ H h => by
  obtain ⟨H0, S, ρ, fl, ρ', hR, b, q, k⟩ := h
  cases q
/-- an expression's reading within a body -/
theorem tE_bd {fe : FE} {te : TE} {σ : Sl} {H H0 : Hp} {S : List (Nat × Addr)} {ρ ρ' : EnvD} {r : RV} {Q : VK} (h : ∀ σ H Q, tE (kw X) (S.map Prod.fst) fe σ H Q → te σ H Q) (b : Bd (kw X) H0 S σ H ρ) (q : fe ρ = some (r, ρ'))
    (k : ∀ v H', Bd (kw X) H0 S σ H' ρ' → Fz H H' → RvOk (kw X) H H' σ ρ' v r → Q v H') : te σ H Q :=
  h _ _ _ ⟨ρ, r, ρ', b.env, q, fun v H' kp ok o => k v H' (b.step kp ok) (kp.fz b.env) o⟩
theorem ds_expr {fe : FE} (he : DE X R e fe) (hs : swapsWith e none pos.line X.env = pure false := by rfl) : DS X R (.Expr e pos) (exprF fe) := ps_imp (ps_expr he hs) fun D σ H h => by
  obtain ⟨H0, S, ρ, fl, ρ', hR, b, q, k⟩ := h
  simp only [exprF, Option.bind_eq_some_iff] at q
  obtain ⟨⟨r, ρ1⟩, q1, q2⟩ := q
  cases q2
  subst hR
  exact tE_bd (fun _ _ _ z => z) b q1 fun v H' b' z o => k σ H' b' z
theorem ds_ret {fe : FE} (he : DE X R e fe) : DS X R (.Return (some e) pos) (retF fe) := ps_imp (ps_ret he) fun D σ H h => by
  obtain ⟨H0, S, ρ, fl, ρ', hR, b, q, k⟩ := h
  simp only [retF, Option.bind_eq_some_iff] at q
  obtain ⟨⟨r, ρ1⟩, q1, q2⟩ := q
  subst hR
  refine tE_bd (fun _ _ _ z => z) b q1 fun v H' b' z o => ?_
  cases r with
  | dat d =>
    cases q2
    exact k σ H' b' z v o
  | own x =>
    cases q2
    obtain ⟨a, rfl, h1, h2, h3⟩ := o
    exact k σ H' b' z _ ⟨a, rfl, b.trk a h1, h3⟩
  | slot i => cases q2
theorem ds_retN : DS X R (.Return none pos) retN := ps_imp ps_retN fun D σ H h => by
  obtain ⟨H0, S, ρ, fl, ρ', hR, b, q, k⟩ := h
  cases q
  exact k σ H b (Fz.refl H) .non .non
theorem ds_if {c : Expr} {t : FT} {sa sb : List Stmt} (hc : DT X R c t) (ha : DSs X R sa f) (hb : DSs X R sb g) : DS X R (.If c sa sb pos) (ifS t f g) := ps_imp (ps_if hc ha hb) fun D σ H h => by
  obtain ⟨H0, S, ρ, fl, ρ', hR, b, q, k⟩ := h
  simp only [ifS, Option.bind_eq_some_iff] at q
  obtain ⟨⟨r, ρ1⟩, q1, q2⟩ := q
  subst hR
  refine ⟨ρ, r, ρ1, b.env, q1, fun H1 k1 ok1 => ?_⟩
  have b1 := b.step k1 ok1
  have z1 := k1.fz b.env
  show if r = true then _ else _
  by_cases hr : r = true
  · subst hr
    rw [if_pos rfl] at q2 ⊢
    exact ⟨H0, S, ρ1, fl, ρ', rfl, b1, q2, fun σ2 H2 b2 z2 => k σ2 H2 b2 (z1.trans z2)⟩
  · rw [if_neg hr] at q2 ⊢
    exact ⟨H0, S, ρ1, fl, ρ', rfl, b1, q2, fun σ2 H2 b2 z2 => k σ2 H2 b2 (z1.trans z2)⟩
end

/-! ### stores -/
section
variable {K : KW} {S : List (Nat × Addr)} {σ : Sl} {ρ ρ' : EnvD} {H H1 H0 : Hp} {v : V} {r : RV} {i : Nat}
theorem ownS_set_ne {j : Nat} {a : Addr} {x : Option SV} (h : i ≠ j) : OwnS (σ.set i (some v)) (ρ.set i x) j a ↔ OwnS σ ρ j a := by
  unfold OwnS
  rw [List.getElem?_set_ne h, List.getElem?_set_ne h]
theorem Bd.put (b : Bd K H0 S σ H ρ) (o : RvOk K H1 H σ ρ v r) (t : ∀ a, H1 a = none → H0 a = none) (h : putS (S.map Prod.fst) i r ρ = some ρ') : Bd K H0 S (σ.set i (some v)) H ρ' := by
  unfold putS at h
  split at h
  · cases h
  · rename_i hi
    split at h
    · rename_i hl
      have hσ : i < σ.length := by rw [b.env.len]; exact hl
      have gen : ∀ (z : SV), ρ' = ρ.set i (some z) → Sv K H v z → (∀ x, z = .own x → ∃ a, v = .ref a ∧ H0 a = none ∧ ∀ j, ¬ OwnS σ ρ j a) → Bd K H0 S (σ.set i (some v)) H ρ' := by
        intro z e hz ho
        subst e
        have own_i : ∀ a, OwnS (σ.set i (some v)) (ρ.set i (some z)) i a → v = .ref a ∧ ∃ x, z = .own x := fun a ha => by
          obtain ⟨⟨x, h1⟩, h2⟩ := ha
          rw [List.getElem?_set_self hl] at h1
          rw [List.getElem?_set_self hσ] at h2
          cases h1
          cases h2
          exact ⟨rfl, x, rfl⟩
        refine ⟨⟨by rw [List.length_set, List.length_set]; exact b.env.len, fun j x e1 => ?_, fun j k a hj hk => ?_⟩, b.keep, b.trk, fun j a hj => ?_, fun p hp => ?_⟩
        · by_cases hij : i = j
          · subst hij
            rw [List.getElem?_set_self hl] at e1
            cases e1
            exact ⟨v, List.getElem?_set_self hσ, hz⟩
          · rw [List.getElem?_set_ne hij] at e1
            obtain ⟨w, e2, hw⟩ := b.env.at' j x e1
            exact ⟨w, by rw [List.getElem?_set_ne hij]; exact e2, hw⟩
        · by_cases hij : i = j
          · subst hij
            by_cases hik : i = k
            · exact hik
            · obtain ⟨e1, x, e2⟩ := own_i a hj
              obtain ⟨a', e3, _, hn⟩ := ho x e2
              rw [e1] at e3; cases e3
              exact absurd ((ownS_set_ne hik).mp hk) (hn k)
          · by_cases hik : i = k
            · subst hik
              obtain ⟨e1, x, e2⟩ := own_i a hk
              obtain ⟨a', e3, _, hn⟩ := ho x e2
              rw [e1] at e3; cases e3
              exact absurd ((ownS_set_ne hij).mp hj) (hn j)
            · exact b.env.sep j k a ((ownS_set_ne hij).mp hj) ((ownS_set_ne hik).mp hk)
        · by_cases hij : i = j
          · subst hij
            obtain ⟨e1, x, e2⟩ := own_i a hj
            obtain ⟨a', e3, h0, hn⟩ := ho x e2
            rw [e1] at e3; cases e3
            exact .inr h0
          · exact b.new j a ((ownS_set_ne hij).mp hj)
        · have hne : i ≠ p.1 := fun z => hi (by rw [z]; exact List.mem_map_of_mem hp)
          exact (ownS_set_ne hne).mpr (b.refs p hp)
      cases r with
      | dat d =>
        cases h
        exact gen (.dat d) rfl o fun x z => nomatch z
      | own x =>
        cases h
        obtain ⟨a, rfl, h1, h2, h3⟩ := o
        exact gen (.own x) rfl ⟨a, rfl, h3⟩ fun y z => ⟨a, rfl, t a h1, h2⟩
      | slot j => cases h
    · cases h
end
section
variable {X : Cx} {R : List Nat} {e : Expr} {pos : Pos}
theorem ds_set (i : Nat) {x : Str} {fe : FE} {pos' : Pos} (hN : X.N.Nodup) (he : DE X R e fe) (hi : X.N[i]? = some x := by rfl) (hx : Loc X.env.scope x := by first | exact Or.inl rfl | exact Or.inr rfl)
    (hs : swapsWith e (some (.Name x pos')) pos.line X.env = pure false := by rfl) (hf : X.fn x = true ∨ X.env.scope.names.lookup x = some .local := by first | exact Or.inl rfl | exact Or.inr rfl) : DS X R (.Assign [.Name x pos'] e pos) (setF R i fe) :=
  ps_imp (ps_set hN hi hx he hs hf) fun D σ H h => by
    obtain ⟨H0, S, ρ, fl, ρ', hR, b, q, k⟩ := h
    simp only [setF, Option.bind_eq_some_iff] at q
    obtain ⟨⟨r, ρ1⟩, q1, ρ2, q2, q3⟩ := q
    cases q3
    subst hR
    refine tE_bd (fun _ _ _ z => z) b q1 fun v H' b' z o => ?_
    exact k _ H' (b'.put o b.trk q2) z
end

section
variable {K : KW} {S : List (Nat × Addr)} {σ : Sl} {ρ ρ' : EnvD} {H H1 H0 : Hp} {v w : V} {r r2 : RV} {i : Nat}
/-- a value in flight while another one is put into a slot -/
theorem RvOk.put (o2 : RvOk K H1 H σ ρ w r2) (o : RvOk K H0 H σ ρ v r) (h : putS (S.map Prod.fst) i r ρ = some ρ') (hl : σ.length = ρ.length) (hns : ∀ k, r2 ≠ .slot k) (hd : ∀ x y a b, r = .own x → r2 = .own y → v = .ref a → w = .ref b → a ≠ b) : RvOk K H1 H (σ.set i (some v)) ρ' w r2 := by
  cases r2 with
  | dat d => exact o2
  | slot k => exact absurd rfl (hns k)
  | own x =>
    obtain ⟨b, rfl, h1, h2, h3⟩ := o2
    refine ⟨b, rfl, h1, fun k hk => ?_, h3⟩
    unfold putS at h
    split at h
    · cases h
    · split at h
      · rename_i hρ
        have hσ : i < σ.length := by rw [hl]; exact hρ
        have gen : ∀ z : SV, ρ' = ρ.set i (some z) → (∀ y, z = .own y → r = .own y) → False := fun z e hz => by
          subst e
          by_cases hik : i = k
          · subst hik
            obtain ⟨⟨y, e1⟩, e2⟩ := hk
            rw [List.getElem?_set_self hρ] at e1
            rw [List.getElem?_set_self hσ] at e2
            cases e1
            cases e2
            exact hd y x b b (hz y rfl) rfl rfl rfl rfl
          · exact h2 k ((ownS_set_ne hik).mp hk)
        cases r with
        | dat d => cases h; exact gen (.dat d) rfl fun y z => nomatch z
        | own y => cases h; exact gen (.own y) rfl fun y' z => by cases z; rfl
        | slot k => cases h
      · cases h
theorem putS_ns {R : List Nat} {ρ ρ' : EnvD} {r : RV} (h : putS R i r ρ = some ρ') : ∀ k, r ≠ .slot k := fun k e => by
  subst e
  unfold putS at h
  split at h
  · cases h
  · split at h <;> cases h
end
section
variable {X : Cx} {R : List Nat} {a b c : Expr} {pos : Pos}
theorem own_apart {K : KW} {H H1 H2 : Hp} {σ : Sl} {ρ1 ρ2 : EnvD} {v w : V} {r : RV} {rb : RV} (o1 : RvOk K H H1 σ ρ1 v r) (o2 : RvOk K H1 H2 σ ρ2 w rb) :
    ∀ x y a b, r = .own x → rb = .own y → v = .ref a → w = .ref b → a ≠ b := fun x y a b e e' e1 e2 => by
  subst e e' e1 e2
  obtain ⟨a', h1, h2, h3, h4⟩ := o1
  cases h1
  obtain ⟨b', g1, g2, g3, g4⟩ := o2
  cases g1
  intro z
  subst z
  obtain ⟨u, eu, _⟩ := h4.some
  rw [g2] at eu
  cases eu
theorem ds_par (i j : Nat) {x y : Str} {fa fb : FE} {px py pt : Pos} {kt k2 : Nat} {pt2 : Pos} (hc : X.calm = true) (hN : X.N.Nodup) (ha : DE X R a fa) (hb : DE X R b fb) (hi : X.N[i]? = some x := by rfl) (hj : X.N[j]? = some y := by rfl) (hij : i ≠ j := by decide)
    (hx : X.env.scope.names.lookup x = some .local := by rfl) (hy : X.env.scope.names.lookup y = some .local := by rfl)
    (hw : swappedStores [.Tuple [.Name x px, .Name y py] kt pt] (.Tuple [a, b] k2 pt2) X.env = pure (some [x, y]) := by rfl)
    (hs : swapsWithSole [.Tuple [.Name x px, .Name y py] kt pt] (.Tuple [a, b] k2 pt2) pos.line X.env = pure false := by rfl)
    (hs1 : starEach [a, b] X.env = (false, eval a X.env) :: starEach [b] X.env := by rfl) (hs2 : starEach [b] X.env = (false, eval b X.env) :: starEach [] X.env := by rfl) :
    DS X R (.Assign [.Tuple [.Name x px, .Name y py] kt pt] (.Tuple [a, b] k2 pt2) pos) (parF R i j fa fb) :=
  ps_imp (ps_par hc hN hi hj hij hx hy (pa_cons ha (pa_cons hb pa_nil hs2) hs1) hw hs) fun D σ H h => by
    obtain ⟨H0, S, ρ, fl, ρ', hR, bd, q, k⟩ := h
    simp only [parF, Option.bind_eq_some_iff] at q
    obtain ⟨⟨ra, ρ1⟩, q1, ⟨rb, ρ2⟩, q2, ρ3, q3, ρ4, q4, q5⟩ := q
    cases q5
    subst hR
    refine tE_bd (fun _ _ _ z => z) bd q1 fun v H1 b1 z1 o1 => ?_
    refine ⟨ρ1, rb, ρ2, b1.env, q2, fun w H2 k2 ok2 o2 => ?_⟩
    have b2 := b1.step k2 ok2
    have o1' := RvOk.later o1 b1.env k2
    refine ⟨v, w, rfl, ?_⟩
    have b3 := b2.put o1' bd.trk q3
    have o2' := RvOk.put o2 o1' q3 b2.env.len (putS_ns q4) (own_apart o1 o2)
    exact k _ H2 (b3.put o2' b1.trk q4) (z1.trans (k2.fz b1.env))
end

/-! ### targets of data -/
/-- slots at vs are filled by data, the others stand -/
structure Ast (vs : List Nat) (σ : Sl) (ρ : EnvD) (σ' : Sl) (ρ' : EnvD) : Prop where
  len : σ'.length = σ.length
  off : ∀ i, i ∉ vs → σ'[i]? = σ[i]? ∧ ρ'[i]? = ρ[i]?
  dat : ∀ i ∈ vs, ∀ x, ρ'[i]? ≠ some (some (.own x))
abbrev FG := D → EnvD → Option EnvD
def tG (K : KW) (vs : List Nat) (g : FG) : TG := fun v σ H Q => ∃ ρ d ρ', EnvOk K H σ ρ ∧ Dv K H v d ∧ g d ρ = some ρ' ∧ ∀ σ', EnvOk K H σ' ρ' → Ast vs σ ρ σ' ρ' → Q σ' H
abbrev DG (X : Cx) (vs : List Nat) (tg : Expr) (g : FG) : Prop := PG X tg (tG (kw X) vs g)
abbrev FGs := List D → EnvD → Option EnvD
def tGs (K : KW) (vs : List Nat) (g : FGs) : TGs := fun us σ H Q => ∃ ρ ds ρ', EnvOk K H σ ρ ∧ Dvs K H us ds ∧ g ds ρ = some ρ' ∧ ∀ σ', EnvOk K H σ' ρ' → Ast vs σ ρ σ' ρ' → Q σ' H
abbrev DGs (X : Cx) (vs : List Nat) (tg : List Expr) (g : FGs) : Prop := PGs X tg (tGs (kw X) vs g)
def nameG (i : Nat) : FG := fun d ρ => if i < ρ.length then some (ρ.set i (some (.dat d))) else none
def nilG : FGs := fun ds ρ => match ds with
  | [] => some ρ
  | _ => none
def consG (g : FG) (h : FGs) : FGs := fun ds ρ => match ds with
  | d :: r => (g d ρ).bind fun ρ' => h r ρ'
  | [] => none
def tupG (n : Nat) (h : FGs) : FG := fun d ρ => match d with
  | .tup ds => if ds.length = n then h ds ρ else none
  | _ => none
section
variable {X : Cx} {e : Expr} {es : List Expr} {pos : Pos}
theorem Ast.refl {σ : Sl} {ρ : EnvD} : Ast [] σ ρ σ ρ := ⟨rfl, fun _ _ => ⟨rfl, rfl⟩, fun _ h => nomatch h⟩
theorem Ast.trans {vs ws : List Nat} {σ σ1 σ2 : Sl} {ρ ρ1 ρ2 : EnvD} (a : Ast vs σ ρ σ1 ρ1) (b : Ast ws σ1 ρ1 σ2 ρ2) : Ast (vs ++ ws) σ ρ σ2 ρ2 where
  len := b.len.trans a.len
  off := fun i h => by
    rw [List.mem_append, not_or] at h
    exact ⟨(b.off i h.2).1.trans (a.off i h.1).1, (b.off i h.2).2.trans (a.off i h.1).2⟩
  dat := fun i h x e => by
    by_cases h2 : i ∈ ws
    · exact b.dat i h2 x e
    · rw [(b.off i h2).2] at e
      exact a.dat i ((List.mem_append.mp h).resolve_right h2) x e
theorem EnvOk.setD {K : KW} {H : Hp} {σ : Sl} {ρ : EnvD} {i : Nat} {v : V} {d : D} (b : EnvOk K H σ ρ) (hl : i < ρ.length) (hv : Dv K H v d) : EnvOk K H (σ.set i (some v)) (ρ.set i (some (.dat d))) := by
  have hσ : i < σ.length := by rw [b.len]; exact hl
  have own_i : ∀ a, ¬ OwnS (σ.set i (some v)) (ρ.set i (some (.dat d))) i a := fun a ha => by
    obtain ⟨⟨x, h1⟩, h2⟩ := ha
    rw [List.getElem?_set_self hl] at h1
    cases h1
  refine ⟨by rw [List.length_set, List.length_set]; exact b.len, fun j x e1 => ?_, fun j k a hj hk => ?_⟩
  · by_cases hij : i = j
    · subst hij
      rw [List.getElem?_set_self hl] at e1
      cases e1
      exact ⟨v, List.getElem?_set_self hσ, hv⟩
    · rw [List.getElem?_set_ne hij] at e1
      obtain ⟨w, e2, hw⟩ := b.at' j x e1
      exact ⟨w, by rw [List.getElem?_set_ne hij]; exact e2, hw⟩
  · have hij : i ≠ j := fun z => own_i a (by rw [z]; exact z ▸ hj)
    have hik : i ≠ k := fun z => own_i a (by rw [z]; exact z ▸ hk)
    exact b.sep j k a ((ownS_set_ne hij).mp hj) ((ownS_set_ne hik).mp hk)
theorem dg_name (i : Nat) {x : Str} (hN : X.N.Nodup) (hi : X.N[i]? = some x := by rfl) (hx : Loc X.env.scope x := by first | exact Or.inl rfl | exact Or.inr rfl)
    (hf : X.fn x = true ∨ X.env.scope.names.lookup x = some .local := by first | exact Or.inl rfl | exact Or.inr rfl) : DG X [i] (.Name x pos) (nameG i) := by
  refine ⟨fun pins s σ H v u Q I r h => ?_⟩
  obtain ⟨ρ, d, ρ', ok, hd, q, k⟩ := h
  unfold nameG at q
  split at q
  · rename_i hl
    cases q
    refine (pg_name hN hi hx hf).run pins s σ H v u _ I r (k _ (ok.setD hl hd) ⟨List.length_set .., fun j hj => ?_, fun j hj x e => ?_⟩)
    · have hne : i ≠ j := fun z => hj (by rw [z]; exact List.mem_singleton.mpr rfl)
      exact ⟨List.getElem?_set_ne hne, List.getElem?_set_ne hne⟩
    · obtain rfl := List.mem_singleton.mp hj
      rw [List.getElem?_set_self hl] at e
      cases e
  · cases q
theorem pg_imp {t t' : TG} (h : PG X e t) (q : ∀ v σ H Q, t' v σ H Q → t v σ H Q) : PG X e t' := ⟨fun pins s σ H v u Q I r x => h.run pins s σ H v u Q I r (q v σ H Q x)⟩
theorem pgs_imp {t t' : TGs} (h : PGs X es t) (q : ∀ v σ H Q, t' v σ H Q → t v σ H Q) : PGs X es t' := ⟨fun pins s σ H v u Q I r x => h.run pins s σ H v u Q I r (q v σ H Q x)⟩
theorem dgs_nil : DGs X [] [] nilG := pgs_imp pgs_nil fun v σ H Q h => by
  obtain ⟨ρ, d, ρ', ok, hd, q, k⟩ := h
  unfold nilG at q
  split at q
  · cases q
    cases hd
    exact ⟨rfl, k σ ok Ast.refl⟩
  · cases q
theorem dgs_cons {vs ws : List Nat} {g : FG} {h : FGs} (h1 : DG X vs e g) (h2 : DGs X ws es h) (ha : (assignEach (e :: es) X.env).map (·.2) = assign e X.env :: (assignEach es X.env).map (·.2) := by rfl) : DGs X (vs ++ ws) (e :: es) (consG g h) := by
  refine pgs_imp (pgs_cons h1 h2 ha) fun v σ H Q hq => ?_
  obtain ⟨ρ, d, ρ', ok, hd, q, k⟩ := hq
  unfold consG at q
  split at q
  · rename_i d0 r
    simp only [Option.bind_eq_some_iff] at q
    obtain ⟨ρ1, q1, q2⟩ := q
    cases hd with
    | cons d1 d2 =>
      refine ⟨_, _, rfl, ρ, d0, ρ1, ok, d1, q1, fun σ1 ok1 a1 => ?_⟩
      exact ⟨ρ1, r, ρ', ok1, d2, q2, fun σ2 ok2 a2 => k σ2 ok2 (a1.trans a2)⟩
  · cases q
theorem dg_tup {vs : List Nat} {h : FGs} {k n : Nat} (hc : X.calm = true) (h1 : DGs X vs es h)
    (hn : (assignEach es X.env).length = n := by rfl) (hst : (assignEach es X.env).findIdx? (·.1) = none := by rfl) : DG X vs (.Tuple es k pos) (tupG n h) := by
  refine pg_imp (pg_tup hc h1 hn hst) fun v σ H Q hq => ?_
  obtain ⟨ρ, d, ρ', ok, hd, q, k⟩ := hq
  unfold tupG at q
  split at q
  · rename_i ds
    split at q
    · rename_i hl
      cases hd with
      | tup d1 d2 => exact ⟨_, _, rfl, SqT.of d1, by rw [d2.length]; exact hl, ρ, ds, ρ', ok, d2, q, k⟩
    · cases q
  · cases q
end
section
variable {K : KW} {H H0 : Hp} {S : List (Nat × Addr)} {σ σ' : Sl} {ρ ρ' : EnvD} {vs : List Nat}
theorem Bd.ast (b : Bd K H0 S σ H ρ) (a : Ast vs σ ρ σ' ρ') (e : EnvOk K H σ' ρ') (hv : ∀ i ∈ vs, i ∉ S.map Prod.fst) : Bd K H0 S σ' H ρ' where
  env := e
  keep := b.keep
  trk := b.trk
  new := fun i c h => by
    obtain ⟨⟨x, h1⟩, h2⟩ := h
    by_cases hi : i ∈ vs
    · exact absurd h1 (a.dat i hi x)
    · rw [(a.off i hi).2] at h1
      rw [(a.off i hi).1] at h2
      exact b.new i c ⟨⟨x, h1⟩, h2⟩
  refs := fun p hp => by
    obtain ⟨⟨x, h1⟩, h2⟩ := b.refs p hp
    have hi : p.1 ∉ vs := fun z => hv _ z (List.mem_map_of_mem hp)
    exact ⟨⟨x, by rw [(a.off _ hi).2]; exact h1⟩, by rw [(a.off _ hi).1]; exact h2⟩
end
/-- target = data -/
def asgF (R vs : List Nat) (f : FE) (g : FG) : FS := fun ρ => (f ρ).bind fun p => match p.1 with
  | .dat d => if ∀ i ∈ vs, i ∉ R then (g d p.2).bind fun ρ' => some (.next, ρ') else none
  | _ => none
section
variable {X : Cx} {R : List Nat} {e tg : Expr} {pos : Pos}
theorem ds_asg {vs : List Nat} {fe : FE} {g : FG} (he : DE X R e fe) (hg : DG X vs tg g) (hs : swapsWithSole [tg] e pos.line X.env = pure false := by rfl) (hw : swappedStores [tg] e X.env = pure none := by rfl) (h1 : (assignEach [tg] X.env).map (·.2) = [assign tg X.env] := by rfl) : DS X R (.Assign [tg] e pos) (asgF R vs fe g) :=
  ps_imp (ps_asg he hg hs hw h1) fun D σ H h => by
    obtain ⟨H0, S, ρ, fl, ρ', hR, b, q, k⟩ := h
    simp only [asgF, Option.bind_eq_some_iff] at q
    obtain ⟨⟨r, ρ1⟩, q1, q2⟩ := q
    subst hR
    split at q2
    · rename_i d er
      obtain rfl : r = .dat d := er
      split at q2
      · rename_i hv
        simp only [Option.bind_eq_some_iff] at q2
        obtain ⟨ρ2, q3, q4⟩ := q2
        cases q4
        refine tE_bd (fun _ _ _ z => z) b q1 fun v H' b' z o => ?_
        exact ⟨ρ1, d, ρ', b'.env, o, q3, fun σ' ok' a' => k σ' H' (b'.ast a' ok' hv) z⟩
      · cases q2
    · cases q2
end

/-! ### loops -/
/-- an iterator that yields the data ds, whatever is laid meanwhile -/
def GoesD (K : KW) (H : Hp) (J : It) (ds : List D) : Prop := ∀ H', Fz H H' → ∀ i, (ds.length ≤ i → J.stop i H') ∧ ∀ d, ds[i]? = some d → J.go i H' ∧ ∀ x H'', J.yld i H' x H'' → Same H' H'' ∧ Dv K H'' x d
abbrev FI := EnvD → Option (List D × EnvD)
def tI (K : KW) (R : List Nat) (f : FI) : TI := fun σ H Q => ∃ ρ ds ρ', EnvOk K H σ ρ ∧ f ρ = some (ds, ρ') ∧ ∀ J H', Kp R σ ρ H ρ' H' → EnvOk K H' σ ρ' → GoesD K H' J ds → Q J H'
abbrev DI (X : Cx) (R : List Nat) (tg e : Expr) (f : FI) : Prop := PI X tg e (tI (kw X) R f)
/-- the turns -/
def loopF (R vs : List Nat) (g : FG) (b : FS) : List D → FS
  | [], ρ => some (.next, ρ)
  | d :: ds, ρ => if ∀ i ∈ vs, i ∉ R then (g d ρ).bind fun ρ1 => (b ρ1).bind fun p => match p.1 with
    | .next => loopF R vs g b ds p.2
    | .cont => loopF R vs g b ds p.2
    | .brk => some (.next, p.2)
    | .ret z => some (.ret z, p.2)
    | .ret2 d x => some (.ret2 d x, p.2)
    else none
def forF (R vs : List Nat) (fi : FI) (g : FG) (b : FS) : FS := fun ρ => (fi ρ).bind fun p => loopF R vs g b p.1 p.2
section
variable {X : Cx} {R : List Nat} {iter tg : Expr} {body : List Stmt} {pos : Pos}
theorem ds_for {vs : List Nat} {fi : FI} {g : FG} {b : FS} (hc : X.calm = true) (hi : DI X R tg iter fi) (hg : DG X vs tg g) (hb : DSs X R body b) (hp : PassesOwn (model X.prog X.w) X.A X.env X.xe)
    (hs : ∀ x, foldedSetIterable iter X.env x = pure x := by intro _; rfl) : DS X R (.For tg iter body [] pos) (forF R vs fi g b) :=
  ps_imp (ps_for hp hc hi hg hb hs) fun D σ H h => by
    obtain ⟨H0, S, ρ, fl, ρ', hR, bd, q, k⟩ := h
    simp only [forF, Option.bind_eq_some_iff] at q
    obtain ⟨⟨ds, ρ1⟩, q1, q2⟩ := q
    subst hR
    refine ⟨ρ, ds, ρ1, bd.env, q1, fun J H1 k1 ok1 gs => ?_⟩
    have b1 := bd.step k1 ok1
    have z1 := k1.fz bd.env
    refine ⟨fun i m σ2 H2 => ∃ ρ2, m = (ds.drop i).length ∧ i ≤ ds.length ∧ Bd (kw X) H0 S σ2 H2 ρ2 ∧ Fz H1 H2 ∧ loopF (S.map Prod.fst) vs g b (ds.drop i) ρ2 = some (fl, ρ'), ⟨_, ρ1, rfl, Nat.zero_le _, b1, Fz.refl _, q2⟩, fun i m σ2 H2 hW => ?_⟩
    obtain ⟨ρ2, rfl, hle, b2, z2, q3⟩ := hW
    have go := gs H2 z2 i
    by_cases hlt : i < ds.length
    · have ei : ds[i]? = some ds[i] := List.getElem?_eq_getElem hlt
      obtain ⟨g1, g2⟩ := go.2 _ ei
      rw [List.drop_eq_getElem_cons hlt] at q3
      simp only [loopF] at q3
      split at q3
      · rename_i hv
        simp only [Option.bind_eq_some_iff] at q3
        obtain ⟨ρ3, q4, ⟨fl4, ρ4⟩, q5, q6⟩ := q3
        refine .inr ⟨g1, fun σ5 H5 => ∃ ρ5, Bd (kw X) H0 S σ5 H5 ρ5 ∧ Fz H1 H5 ∧ loopF (S.map Prod.fst) vs g b (ds.drop (i + 1)) ρ5 = some (fl, ρ'), fun σ5 H5 hN => ?_, fun x H3 hy => ?_⟩
        · obtain ⟨ρ5, b5, z5, q7⟩ := hN
          exact ⟨(ds.drop (i + 1)).length, by rw [List.length_drop, List.length_drop]; omega, ρ5, rfl, hlt, b5, z5, q7⟩
        · obtain ⟨sm, hx⟩ := g2 x H3 hy
          have b3 := b2.step (Kp.same sm) (b2.env.same sm)
          refine ⟨ρ2, ds[i], ρ3, b3.env, hx, q4, fun σ4 ok4 a4 => ?_⟩
          have b4 := b3.ast a4 ok4 hv
          refine ⟨H0, S, ρ3, fl4, ρ4, rfl, b4, q5, fun σ5 H5 b5 z5 => ?_⟩
          have zz := (z2.trans (Fz.of_same sm)).trans z5
          cases fl4 with
          | next => exact ⟨ρ4, b5, zz, q6⟩
          | cont => exact ⟨ρ4, b5, zz, q6⟩
          | brk => cases q6; exact k σ5 H5 b5 (z1.trans zz)
          | ret z => cases q6; exact k σ5 H5 b5 (z1.trans zz)
          | ret2 d x => cases q6; exact k σ5 H5 b5 (z1.trans zz)
      · cases q3
    · rw [List.drop_of_length_le (by omega)] at q3
      cases q3
      exact .inl ⟨go.1 (by omega), k σ2 H2 b2 (z1.trans z2)⟩
end

/-! ### what is walked -/
def seqI (f : FE) : FI := fun ρ => (f ρ).bind fun p => match p.1 with
  | .dat (.lst ds) => some (ds, p.2)
  | _ => none
def tupI (f : FE) : FI := fun ρ => (f ρ).bind fun p => match p.1 with
  | .dat (.tup ds) => some (ds, p.2)
  | _ => none
def rngL (lo : Int) (n : Nat) : List D := (List.range n).map fun i => D.int (lo + (i : Nat))
def rng1I (g : FA) : FI := fun ρ => (g ρ).bind fun p => match p.1 with
  | [.dat (.int j)] => if -(2 ^ 62) ≤ j ∧ j < 2 ^ 62 then some (rngL 0 j.toNat, p.2) else none
  | _ => none
def rng2I (g : FA) : FI := fun ρ => (g ρ).bind fun p => match p.1 with
  | [.dat (.int i), .dat (.int j)] => if -(2 ^ 62) ≤ i ∧ i < 2 ^ 62 ∧ -(2 ^ 62) ≤ j ∧ j < 2 ^ 62 then some (rngL i (j - i).toNat, p.2) else none
  | _ => none
section
variable {X : Cx} {R : List Nat} {tg e : Expr} {es : List Expr}
theorem pi_imp {t t' : TI} (h : PI X tg e t) (q : ∀ σ H Q, t' σ H Q → t σ H Q) : PI X tg e t' := ⟨fun pins s σ H Q I x => h.run pins s σ H Q I (q σ H Q x)⟩
theorem goes_list {K : KW} {H : Hp} {a : Addr} {vs : List V} {ds : List D} (h : FzL H a vs) (hd : Dvs K H vs ds) : GoesD K H (Itl K.K a) ds := fun H' z i => by
  have h' := h.mono z
  have hd' := hd.mono z
  refine ⟨fun hi => ⟨vs, .inl h'.rd, by rw [hd.length]; exact hi⟩, fun d e => ?_⟩
  obtain ⟨v, e1, e2⟩ := hd'.get e
  refine ⟨⟨vs, v, .inl h'.rd, e1⟩, fun x H'' y => ?_⟩
  obtain ⟨rfl, y⟩ := y
  have := y vs (.inl h'.rd)
  rw [e1] at this
  cases this
  exact ⟨Same.refl _, e2⟩
theorem goes_tup {K : KW} {H : Hp} {a : Addr} {vs : List V} {ds : List D} (h : H a = some (.tup vs)) (hd : Dvs K H vs ds) : GoesD K H (Itt K.K a) ds := fun H' z i => by
  have h' : H' a = some (.tup vs) := by rw [z a (by rw [h]; exact trivial), h]
  have hd' := hd.mono z
  refine ⟨fun hi => ⟨vs, SqT.of h', by rw [hd.length]; exact hi⟩, fun d e => ?_⟩
  obtain ⟨v, e1, e2⟩ := hd'.get e
  refine ⟨⟨vs, v, SqT.of h', e1⟩, fun x H'' y => ?_⟩
  obtain ⟨rfl, y⟩ := y
  have := y vs (SqT.of h')
  rw [e1] at this
  cases this
  exact ⟨Same.refl _, e2⟩
theorem goes_rng {K : KW} {H : Hp} (lo : Int) (n : Nat) : GoesD K H (Itr lo n) (rngL lo n) := fun H' z i => by
  refine ⟨fun hi => (show n ≤ i by simpa [rngL] using hi), fun d e => ?_⟩
  unfold rngL at e
  rw [List.getElem?_map, Option.map_eq_some_iff] at e
  obtain ⟨j, e1, rfl⟩ := e
  obtain ⟨hj, e2⟩ := List.getElem?_eq_some_iff.mp e1
  rw [List.length_range] at hj
  rw [List.getElem_range] at e2
  subst e2
  refine ⟨hj, fun x H'' y => ?_⟩
  obtain ⟨rfl, rfl⟩ := y
  exact ⟨Same.refl _, .int _⟩
theorem di_list {fe : FE} (he : DE X R e fe) : DI X R tg e (seqI fe) := pi_imp (pi_list he) fun σ H Q hq => by
  obtain ⟨ρ, ds, ρ', ok, q, k⟩ := hq
  simp only [seqI, Option.bind_eq_some_iff] at q
  obtain ⟨⟨r, ρ1⟩, q1, q2⟩ := q
  split at q2
  · rename_i d er
    obtain rfl : r = .dat (.lst d) := er
    cases q2
    refine ⟨ρ, _, ρ1, ok, q1, fun v H1 k1 ok1 o1 => ?_⟩
    cases (show Dv (kw X) H1 v (.lst _) from o1) with
    | lst h1 h2 => exact ⟨_, rfl, ⟨_, .inl h1.rd⟩, k _ H1 k1 ok1 (goes_list h1 h2)⟩
  · cases q2
theorem di_tup {fe : FE} (he : DE X R e fe) : DI X R tg e (tupI fe) := pi_imp (pi_tup he) fun σ H Q hq => by
  obtain ⟨ρ, ds, ρ', ok, q, k⟩ := hq
  simp only [tupI, Option.bind_eq_some_iff] at q
  obtain ⟨⟨r, ρ1⟩, q1, q2⟩ := q
  split at q2
  · rename_i d er
    obtain rfl : r = .dat (.tup d) := er
    cases q2
    refine ⟨ρ, _, ρ1, ok, q1, fun v H1 k1 ok1 o1 => ?_⟩
    cases (show Dv (kw X) H1 v (.tup _) from o1) with
    | tup h1 h2 => exact ⟨_, rfl, ⟨_, SqT.of h1⟩, k _ H1 k1 ok1 (goes_tup h1 h2)⟩
  · cases q2
theorem di_rng1 {a : Expr} {g : FA} {p pos : Pos} (ha : DA X R [a] g) (hg : Gl X "range") (hm : X.mg "range" = none) (hs : starEach [a] X.env = [(false, eval a X.env)] := by rfl) : DI X R tg (.Call (.Name "range" p) [a] [] pos) (rng1I g) :=
  pi_imp (pi_range1 hg hm ha hs) fun σ H Q hq => by
    obtain ⟨ρ, ds, ρ', ok, q, k⟩ := hq
    simp only [rng1I, Option.bind_eq_some_iff] at q
    obtain ⟨⟨r, ρ1⟩, q1, q2⟩ := q
    split at q2
    · rename_i j er
      obtain rfl : r = [.dat (.int j)] := er
      split at q2
      · rename_i hb
        cases q2
        refine ⟨ρ, _, ρ1, ok, q1, fun v H1 k1 ok1 o1 => ?_⟩
        cases o1 with
        | cons o1 t =>
          cases t
          rename_i v
          cases (show Dv (kw X) H1 v (.int j) from o1)
          exact ⟨j, rfl, hb.1, hb.2, k _ H1 k1 ok1 (goes_rng 0 _)⟩
      · cases q2
    · cases q2
theorem di_rng2 {a b : Expr} {g : FA} {p pos : Pos} (ha : DA X R [a, b] g) (hg : Gl X "range") (hm : X.mg "range" = none) (hs : starEach [a, b] X.env = [(false, eval a X.env), (false, eval b X.env)] := by rfl)
    (hs2 : starEach [b] X.env = [(false, eval b X.env)] := by rfl) : DI X R tg (.Call (.Name "range" p) [a, b] [] pos) (rng2I g) :=
  pi_imp (pi_range2 hg hm ha hs hs2) fun σ H Q hq => by
    obtain ⟨ρ, ds, ρ', ok, q, k⟩ := hq
    simp only [rng2I, Option.bind_eq_some_iff] at q
    obtain ⟨⟨r, ρ1⟩, q1, q2⟩ := q
    split at q2
    · rename_i i j er
      obtain rfl : r = [.dat (.int i), .dat (.int j)] := er
      split at q2
      · rename_i hb
        cases q2
        refine ⟨ρ, _, ρ1, ok, q1, fun v H1 k1 ok1 o1 => ?_⟩
        cases o1 with
        | cons o1 t =>
          cases t with
          | cons o2 t =>
            cases t
            rename_i v w
            cases (show Dv (kw X) H1 v (.int i) from o1)
            cases (show Dv (kw X) H1 w (.int j) from o2)
            exact ⟨i, j, rfl, hb, k _ H1 k1 ok1 (goes_rng i _)⟩
      · cases q2
    · cases q2
end
end DL

/-! DL7: defs of the text by functions on data: pure ones, ones whose first parameter is written; their calls; the law's own end. -/
namespace DL
open PySem PySem.Spec PyProof.Rows L2

/-- a def's promise, wherever no guard of repr stands -/
structure FnG (P : Program) (w : World) (K : PySem.W.Frag) (mg : Str → Option Value) (base : Heap) (k : Nat) (f : Addr) (fd : FuncData) (ps : List Str) (sp : Sp) : Prop where
  len : ∀ vs H Q E, sp vs H Q E → vs.length = ps.length
  run : ∀ (A : Around) (outer : List Env) (s : Shared) (H : Hp) (args : Args) (us : List Value) (vs : List V) (Q : VK) (E : XK), A.guards = some [] → Room k A → Env0 P w K mg base A outer s H → BindsTo s fd args (ps.zip us) → Vals vs us → sp vs H Q E →
    codeAny (model P w) A (.call (.ref f) args) (CR CX0 outer P w H s Q E) s
section
variable {P : Program} {w : World} {K : PySem.W.Frag} {mg : Str → Option Value} {base : Heap}
theorem fnG {x qual : Str} {st : Stmt} {f : Addr} {fd : FuncData} {N ps : List Str} {k : Nat} {sp : Sp} (F : Fun K x qual st f fd) (S : FnScope N ps (defScope st)) (len : ∀ vs H Q E, sp vs H Q E → vs.length = ps.length)
    (hbody : ∀ (cdv : Value) (A : Around) (outer : List Env) (s : Shared) (H : Hp) (vs : List V) (Q : VK) (E : XK), (A.deeper (envOfC qual (defScope st) s.heap.objs.size f cdv)).guards = some [] → Room k (A.deeper (envOfC qual (defScope st) s.heap.objs.size f cdv)) → sp vs H Q E →
      ∃ t, PSs (cxOf CX0 P w K mg base N qual (defScope st) f cdv A outer s H E).nox (defBody st) t ∧ t { nx := fun _ H' => Q .non H', rt := Q } (L2.start N vs) H) : FnG P w K mg base (k + 1) f fd ps sp := by
  obtain ⟨oc, od, kV, doc, pm, an, cdv, ct, osl, rfl, lk, hcd⟩ := F.ex
  refine ⟨len, fun A outer s H args us vs Q E hg hr e0 hb r hsp => ?_⟩
  have hl : vs.length = ps.length := len vs H Q E hsp
  have kin : K.In s.heap := e0.mod.kin.keeps fun c q z => (e0.bs c q z).1
  refine codeAny_call_function hr.depth (kin _ _ lk) rfl S.co S.gen rfl (PySem.W.codeRec_of kin hcd) (hb _ _ _ _ (wpAny_newFunctionEnv_cells S.kind (fun p hp => ?_) fun env he s1 ic => ?_))
  · obtain ⟨n, v⟩ := p
    exact (S.par n (List.of_mem_zip hp).1).elim .inl fun z => .inr ⟨z, PySem.W.cellsFrom_some _ _ _ (.inl z)⟩
  subst he
  have lim : s.heap.NoLimit := e0.mod.nolimit.keeps fun c q z => (e0.bs c q z).1
  refine ⟨lim.keeps ic.toInCall.keep, codeAny_func ?_⟩
  obtain ⟨t, ht, hq⟩ := hbody cdv A outer s H vs Q E hg (hr.deeper _) hsp
  have I := inv_start (CX := CX0) (E := E) S hr.hd e0 hl r ic
  refine wpAny_mono (ht.nox.run [] s1 (L2.start N vs) H _ I hq) (fun fl s2 hs => ?_) fun _ _ z => z
  cases fl with
  | ret u => exact let ⟨v, σ2, H2, J, rv, q⟩ := hs; ⟨v, H2, J.os, J.bare, J.base, J.hok, rv, q⟩
  | next => exact let ⟨σ2, H2, J, q⟩ := hs; ⟨V.non, H2, J.os, J.bare, J.base, J.hok, rfl, q⟩
  | brk => exact let ⟨_, _, _, q⟩ := hs; q.elim
  | cont => exact let ⟨_, _, _, q⟩ := hs; q.elim
end
section
variable {X : Cx} {k : Nat} {f : Addr} {fd : FuncData} {ps : List Str} {sp : Sp} {x : Str} {p pos : Pos} {e : Expr} {es : List Expr} {t : TA}
theorem pe_callG (F : FnG X.prog X.w X.K X.mg X.base k f fd ps sp) (hg0 : X.A.guards = some []) (hr : Room k X.A) (hg : Gl X x) (hm : X.mg x = some (.ref f)) (hk : PySem.W.keepIn X.K (.ref f) = true) (hb : L2.Binds X.K fd ps [])
    (ha : PA X (e :: es) t) (hdb : (x == ("__debug__" : Str)) = false := by decide) (he : starEach (e :: es) X.env = (false, eval e X.env) :: starEach es X.env := by rfl) (hpl : (backTo pos (starEach es X.env)).any (·.1) = false := by rfl) :
    PE X (.Call (.Name x p) (e :: es) [] pos) (fun σ H Q => t σ H fun vs H1 => sp vs H1 Q E0) := by
  refine ⟨fun pins s σ H Q I h => wpAny_Call_Name_kw (ld_glob I hg hm (PySem.W.callWith_K (h₀ := X.base) I.ok.mod.kin hk (thn (ha.run pos pins s σ H _ I h) fun us s1 ⟨vs, H1, I1, r, q⟩ => ⟨I1.kIn, ?_⟩) he hpl) hdb)⟩
  replace q : sp vs H1 Q E0 := q
  have hl : (us ++ []).length = ps.length := by rw [List.append_nil, ← r.length]; exact F.len _ _ _ _ q
  have hbd := hb s1 us I1.kIn hl
  rw [List.append_nil] at hbd
  refine wpAny_call (codeAny_mono (F.run X.A X.stack s1 H1 ⟨us, []⟩ us vs Q E0 hg0 hr I1.env0 hbd r q) fun r s2 hq => ?_)
  cases r with
  | error e => exact pass0 pins σ H1 s1 e s2 I1 hq
  | ok fl =>
    cases fl with
    | ret u => exact I1.after hq
    | next => exact False.elim hq
    | brk => exact False.elim hq
    | cont => exact False.elim hq
end
/-- a def that leaves what it is handed -/
abbrev FP := List D → Option SV
/-- a def that writes at its first argument, an own thing -/
abbrev FR := OV → List D → Option (SV × OV)
def spP (K : KW) (n : Nat) (F : FP) : Sp := fun vs H Q _ => ∃ ds z, ds.length = n ∧ Dvs K H vs ds ∧ F ds = some z ∧ Pst K H Q z
def spR (K : KW) (n : Nat) (F : FR) : Sp := fun vs H Q _ => ∃ a ws x ds z x', vs = .ref a :: ws ∧ ds.length + 1 = n ∧ OwnAt K H a x ∧ Dvs K H ws ds ∧ F x ds = some (z, x') ∧
  ∀ v H', (∀ b o, b ≠ a → H b = some o → H' b = some o) → (∀ b, H' b = none → H b = none) → OwnAt K H' a x' → Fr K H H' v z → Q v H'
def startD (n : Nat) (svs : List SV) : EnvD := svs.map some ++ List.replicate (n - svs.length) none
def runP (n : Nat) (b : FS) : FP := fun ds => (b (startD n (ds.map .dat))).bind fun p => match p.1 with
  | .ret z => some z
  | .next => some (.dat .non)
  | _ => none
def runR (n : Nat) (b : FS) : FR := fun x ds => (b (startD n (.own x :: ds.map .dat))).bind fun p => match p.1, p.2[0]? with
  | .ret z, some (some (SV.own x')) => some (z, x')
  | .next, some (some (SV.own x')) => some (.dat .non, x')
  | _, _ => none
def callP (F : FP) (g : FA) : FE := fun ρ => (g ρ).bind fun p => (datA p.1).bind fun ds => (F ds).bind fun z => some (z.r, p.2)
def callR (F : FR) (g : FA) : FE := fun ρ => (g ρ).bind fun p => match p.1 with
  | .slot i :: rs => match p.2[i]? with
    | some (some (.own x)) => (datA rs).bind fun ds => (F x ds).bind fun q => some (q.1.r, p.2.set i (some (.own q.2)))
    | _ => none
  | _ => none

section
variable {K : KW} {H H' : Hp} {σ : Sl} {ρ : EnvD}
theorem start_len {N : List Str} {vs : List V} {svs : List SV} (h : vs.length = svs.length) : (L2.start N vs).length = (startD N.length svs).length := by
  unfold L2.start startD
  simp [h]
theorem start_at {N : List Str} {vs : List V} {svs : List SV} (h : Paired (Sv K H) vs svs) : ∀ (i : Nat) (x : SV), (startD N.length svs)[i]? = some (some x) → ∃ v, (L2.start N vs)[i]? = some (some v) ∧ Sv K H v x := by
  intro i x e
  unfold startD at e
  by_cases hi : i < svs.length
  · rw [List.getElem?_append_left (by simpa using hi), List.getElem?_map] at e
    obtain ⟨y, e1, e2⟩ := Option.map_eq_some_iff.mp e
    cases e2
    have key : ∀ {vs : List V} {svs : List SV} {i : Nat}, Paired (Sv K H) vs svs → svs[i]? = some x → ∃ v, vs[i]? = some v ∧ Sv K H v x := by
      intro vs svs i h
      induction h generalizing i with
      | nil => intro e; simp at e
      | cons r t ih =>
        cases i with
        | zero => intro e; simp at e; subst e; exact ⟨_, rfl, r⟩
        | succ j => intro e; simpa using ih (i := j) (by simpa using e)
    obtain ⟨v, e3, hv⟩ := key h e1
    refine ⟨v, ?_, hv⟩
    unfold L2.start
    rw [List.getElem?_append_left (by simpa [Paired.length h] using hi), List.getElem?_map, e3]
    rfl
  · rw [List.getElem?_append_right (by simpa using hi)] at e
    rw [List.getElem?_replicate] at e
    split at e <;> cases e
theorem Dvs.sv : ∀ {vs : List V} {ds : List D}, Dvs K H vs ds → Paired (Sv K H) vs (ds.map .dat)
  | _, _, .nil => .nil
  | _, _, .cons h t => .cons h (Dvs.sv t)
end
section
variable {P : Program} {w : World} {K : PySem.W.Frag} {mg : Str → Option Value} {base : Heap}
/-- THE RULE for a def that leaves what it is handed -/
theorem fn_pure {x qual : Str} {st : Stmt} {f : Addr} {fd : FuncData} {N ps : List Str} {k : Nat} {b : FS} (F : Fun K x qual st f fd) (S : FnScope N ps (defScope st))
    (hb : ∀ (cdv : Value) (A : Around) (outer : List Env) (s : Shared) (H : Hp) (E : XK), (A.deeper (envOfC qual (defScope st) s.heap.objs.size f cdv)).guards = some [] → Room k (A.deeper (envOfC qual (defScope st) s.heap.objs.size f cdv)) → DSs (cxOf CX0 P w K mg base N qual (defScope st) f cdv A outer s H E).nox [] (defBody st) b) :
    FnG P w K mg base (k + 1) f fd ps (spP ⟨K, P, w⟩ ps.length (runP N.length b)) := by
  refine fnG F S (fun vs H Q E h => ?_) fun cdv A outer s H vs Q E hg hr h => ?_
  · obtain ⟨ds, z, h1, h2, _⟩ := h
    rw [h2.length, h1]
  · obtain ⟨ds, z, hl, hd, hF, hp⟩ := h
    refine ⟨_, hb cdv A outer s H E hg hr, ?_⟩
    simp only [runP, Option.bind_eq_some_iff] at hF
    obtain ⟨⟨fl, ρ'⟩, q1, q2⟩ := hF
    have pr := hd.sv
    refine ⟨H, [], startD N.length (ds.map .dat), fl, ρ', rfl, ⟨⟨start_len (by rw [List.length_map]; exact hd.length), start_at pr, fun i j a hi _ => ?_⟩, fun a o e _ => e, fun a e => e, fun i a hi => ?_, fun p hp => nomatch hp⟩, q1, fun σ' H' bd z => ?_⟩
    · obtain ⟨⟨y, e1⟩, _⟩ := hi
      exact absurd e1 (no_own ds i y)
    · obtain ⟨⟨y, e1⟩, _⟩ := hi
      exact absurd e1 (no_own ds i y)
    · have sm : Same H H' := fun a o e => bd.keep a o e fun p hp => nomatch hp
      cases fl with
      | ret z' =>
        cases q2
        intro v hv
        exact hp v H' sm hv
      | next =>
        cases q2
        exact hp .non H' sm .non
      | brk => cases q2
      | cont => cases q2
      | ret2 d x => cases q2
where
  no_own {n : Nat} (ds : List D) (i : Nat) (y : OV) : (startD n (ds.map SV.dat))[i]? ≠ some (some (.own y)) := fun e => by
    unfold startD at e
    by_cases hi : i < (ds.map SV.dat).length
    · rw [List.getElem?_append_left (by simpa using hi), List.getElem?_map, List.getElem?_map] at e
      cases q : ds[i]? with
      | none => rw [q] at e; cases e
      | some d => rw [q] at e; cases e
    · rw [List.getElem?_append_right (by simpa using hi), List.getElem?_replicate] at e
      split at e <;> cases e
/-- THE RULE for a def that writes at its first argument -/
theorem fn_ref {x qual : Str} {st : Stmt} {f : Addr} {fd : FuncData} {N ps : List Str} {k : Nat} {b : FS} (F : Fun K x qual st f fd) (S : FnScope N ps (defScope st)) (hn : 0 < ps.length)
    (hb : ∀ (cdv : Value) (A : Around) (outer : List Env) (s : Shared) (H : Hp) (E : XK), (A.deeper (envOfC qual (defScope st) s.heap.objs.size f cdv)).guards = some [] → Room k (A.deeper (envOfC qual (defScope st) s.heap.objs.size f cdv)) → DSs (cxOf CX0 P w K mg base N qual (defScope st) f cdv A outer s H E).nox [0] (defBody st) b) :
    FnG P w K mg base (k + 1) f fd ps (spR ⟨K, P, w⟩ ps.length (runR N.length b)) := by
  refine fnG F S (fun vs H Q E h => ?_) fun cdv A outer s H vs Q E hg hr h => ?_
  · obtain ⟨a, ws, x, ds, z, x', rfl, h1, h2, h3, _⟩ := h
    rw [List.length_cons, h3.length, h1]
  · obtain ⟨a, ws, x, ds, z, x', rfl, hl, ho, hd, hF, hp⟩ := h
    refine ⟨_, hb cdv A outer s H E hg hr, ?_⟩
    simp only [runR, Option.bind_eq_some_iff] at hF
    obtain ⟨⟨fl, ρ'⟩, q1, q2⟩ := hF
    have pr : Paired (Sv ⟨K, P, w⟩ H) (.ref a :: ws) (.own x :: ds.map .dat) := .cons ⟨a, rfl, ho⟩ hd.sv
    have own0 : ∀ i c, OwnS (L2.start N (.ref a :: ws)) (startD N.length (.own x :: ds.map .dat)) i c → i = 0 ∧ c = a := fun i c hi => by
      obtain ⟨⟨y, e1⟩, e2⟩ := hi
      cases i with
      | zero =>
        refine ⟨rfl, ?_⟩
        unfold L2.start at e2
        simp at e2
        exact e2.symm
      | succ i =>
        exfalso
        unfold startD at e1
        by_cases hi : i + 1 < (SV.own x :: ds.map SV.dat).length
        · rw [List.getElem?_append_left (by simpa using hi), List.map_cons, List.getElem?_cons_succ, List.getElem?_map, List.getElem?_map] at e1
          cases q : ds[i]? with
          | none => rw [q] at e1; cases e1
          | some d => rw [q] at e1; cases e1
        · rw [List.getElem?_append_right (by simpa using hi), List.getElem?_replicate] at e1
          split at e1 <;> cases e1
    have at0 : OwnS (L2.start N (.ref a :: ws)) (startD N.length (.own x :: ds.map .dat)) 0 a := ⟨⟨x, rfl⟩, rfl⟩
    refine ⟨H, [(0, a)], startD N.length (.own x :: ds.map .dat), fl, ρ', rfl, ⟨⟨start_len (by rw [List.length_cons, List.length_cons, List.length_map, hd.length]), start_at pr, fun i j c hi hj => ?_⟩, fun a o e _ => e, fun a e => e, fun i c hi => ?_, fun p hp => ?_⟩, q1, fun σ' H' bd zz => ?_⟩
    · rw [(own0 i c hi).1, (own0 j c hj).1]
    · obtain ⟨rfl, rfl⟩ := own0 i c hi
      exact .inl List.mem_cons_self
    · obtain rfl := List.mem_singleton.mp hp
      exact at0
    · have keep : ∀ b o, b ≠ a → H b = some o → H' b = some o := fun b o hb e => bd.keep b o e fun p hp => by
        obtain rfl := List.mem_singleton.mp hp
        exact fun z => hb z.symm
      obtain ⟨y, e1, ho'⟩ := bd.env.ownAt (bd.refs (0, a) List.mem_cons_self)
      cases fl with
      | ret z' =>
        simp only [e1] at q2
        cases q2
        intro v hv
        exact hp v H' keep bd.trk ho' hv
      | next =>
        simp only [e1] at q2
        cases q2
        exact hp .non H' keep bd.trk ho' .non
      | brk => cases q2
      | cont => cases q2
      | ret2 d x => cases q2
end
section
variable {X : Cx} {R : List Nat} {k : Nat} {f : Addr} {fd : FuncData} {ps : List Str} {x : Str} {p pos : Pos} {e : Expr} {es : List Expr} {g : FA}
/-- a call of a def that leaves what it is handed -/
theorem de_call {F : FP} (hg0 : X.A.guards = some []) (G : FnG X.prog X.w X.K X.mg X.base k f fd ps (spP (kw X) ps.length F)) (hr : Room k X.A) (hg : Gl X x) (hm : X.mg x = some (.ref f)) (hk : PySem.W.keepIn X.K (.ref f) = true) (hb : Binds X.K fd ps [])
    (ha : DA X R (e :: es) g) (hl : (e :: es).length = ps.length := by rfl) (hdb : (x == ("__debug__" : Str)) = false := by decide) (he : starEach (e :: es) X.env = (false, eval e X.env) :: starEach es X.env := by rfl) (hpl : (backTo pos (starEach es X.env)).any (·.1) = false := by rfl) :
    DE X R (.Call (.Name x p) (e :: es) [] pos) (callP (fun ds => if ds.length = ps.length then F ds else none) g) :=
  pe_imp (pe_callG G hg0 hr hg hm hk hb ha hdb he hpl) fun σ H Q hq => by
    obtain ⟨ρ, r', ρ', ok, q, k⟩ := hq
    simp only [callP, Option.bind_eq_some_iff] at q
    obtain ⟨⟨rs, ρ1⟩, q1, ds, q2, z, q3, q4⟩ := q
    cases q4
    split at q3
    · rename_i hds
      refine ⟨ρ, rs, ρ1, ok, q1, fun vs H1 k1 ok1 o1 => ?_⟩
      exact ⟨ds, z, hds, RvsOk.dat o1 q2, q3, fun v H' sm fr => k v H' (k1.trans (Kp.same sm)) (ok1.same sm) (fr.rvOk ok1 fun b hb => k1.trk b hb)⟩
    · cases q3
theorem paired_dat {K : KW} {H H' : Hp} {σ : Sl} {ρ' : EnvD} {v : V} {vs : List V} {r : RV} {rs : List RV} (h : RvsOk K H H' σ ρ' vs (r :: rs)) : ∃ v ws, vs = v :: ws ∧ RvOk K H H' σ ρ' v r ∧ RvsOk K H H' σ ρ' ws rs := by
  cases h with
  | cons h t => exact ⟨_, _, rfl, h, t⟩
theorem EnvOk.setOwn {K : KW} {H H' : Hp} {σ : Sl} {ρ : EnvD} {i : Nat} {a : Addr} {x x' : OV} (e : EnvOk K H σ ρ) (h1 : ρ[i]? = some (some (.own x))) (h2 : σ[i]? = some (some (.ref a))) (fz : Fz H H') (kp : ∀ b o, b ≠ a → H b = some o → H' b = some o)
    (ho : OwnAt K H' a x') : EnvOk K H' σ (ρ.set i (some (.own x'))) := by
  have hl : i < ρ.length := (List.getElem?_eq_some_iff.mp h1).1
  have back : ∀ j b, OwnS σ (ρ.set i (some (.own x'))) j b → OwnS σ ρ j b := fun j b hj => by
    obtain ⟨⟨y, q⟩, q2⟩ := hj
    by_cases hij : i = j
    · subst hij
      exact ⟨⟨x, h1⟩, q2⟩
    · rw [List.getElem?_set_ne hij] at q
      exact ⟨⟨y, q⟩, q2⟩
  refine ⟨by rw [List.length_set]; exact e.len, fun j y e1 => ?_, fun j k b hj hk => e.sep j k b (back j b hj) (back k b hk)⟩
  by_cases hij : i = j
  · subst hij
    rw [List.getElem?_set_self hl] at e1
    cases e1
    exact ⟨_, h2, a, rfl, ho⟩
  · rw [List.getElem?_set_ne hij] at e1
    obtain ⟨v, e2, hv⟩ := e.at' j y e1
    refine ⟨v, e2, ?_⟩
    cases y with
    | dat d => exact Dv.mono fz hv
    | own y =>
      obtain ⟨b, rfl, hb⟩ := hv
      have hne : b ≠ a := fun z => hij (e.sep i j a ⟨⟨x, h1⟩, h2⟩ ⟨⟨y, e1⟩, by rw [← z]; exact e2⟩)
      obtain ⟨u, eu, _⟩ := hb.some
      exact ⟨b, rfl, hb.mono fz (by rw [eu, kp b u hne eu])⟩
theorem kp_setOwn {H H' : Hp} {σ : Sl} {ρ : EnvD} {i : Nat} {a : Addr} {x x' : OV} (h1 : ρ[i]? = some (some (.own x))) (h2 : σ[i]? = some (some (.ref a))) (kp : ∀ b o, b ≠ a → H b = some o → H' b = some o) (tr : ∀ b, H' b = none → H b = none) :
    Kp R σ ρ H (ρ.set i (some (.own x'))) H' := by
  have hl : i < ρ.length := (List.getElem?_eq_some_iff.mp h1).1
  refine ⟨fun b o e n => kp b o (fun z => n i ⟨⟨x, h1⟩, by rw [z]; exact h2⟩) e, tr, fun j y e => ?_, fun j hj y e => ?_, fun j y e => ?_⟩
  · by_cases hij : i = j
    · subst hij; exact ⟨x, h1⟩
    · rw [List.getElem?_set_ne hij] at e
      exact ⟨y, e⟩
  · by_cases hij : i = j
    · subst hij
      exact ⟨x', List.getElem?_set_self hl⟩
    · exact ⟨y, by rw [List.getElem?_set_ne hij]; exact e⟩
  · by_cases hij : i = j
    · subst hij
      exact ⟨_, List.getElem?_set_self hl⟩
    · exact ⟨y, by rw [List.getElem?_set_ne hij]; exact e⟩
theorem own_fz {K : KW} {H H' : Hp} {a : Addr} {x : OV} (ho : OwnAt K H a x) (kp : ∀ b o, b ≠ a → H b = some o → H' b = some o) : Fz H H' := fun b f => by
  cases e : H b with
  | none => rw [e] at f; exact f.elim
  | some o =>
    refine kp b o (fun z => ?_) e
    subst z
    obtain ⟨u, eu, _, nf⟩ := ho.some
    rw [eu] at f
    exact nf f
/-- a call of a def that writes at its first argument, a slot of ours -/
theorem de_callR {F : FR} (hg0 : X.A.guards = some []) (G : FnG X.prog X.w X.K X.mg X.base k f fd ps (spR (kw X) ps.length F)) (hr : Room k X.A) (hg : Gl X x) (hm : X.mg x = some (.ref f)) (hk : PySem.W.keepIn X.K (.ref f) = true) (hb : Binds X.K fd ps [])
    (ha : DA X R (e :: es) g) (hdb : (x == ("__debug__" : Str)) = false := by decide) (he : starEach (e :: es) X.env = (false, eval e X.env) :: starEach es X.env := by rfl) (hpl : (backTo pos (starEach es X.env)).any (·.1) = false := by rfl) :
    DE X R (.Call (.Name x p) (e :: es) [] pos) (callR (fun y ds => if ds.length + 1 = ps.length then F y ds else none) g) :=
  pe_imp (pe_callG G hg0 hr hg hm hk hb ha hdb he hpl) fun σ H Q hq => by
    obtain ⟨ρ, r', ρ', ok, q, k⟩ := hq
    simp only [callR, Option.bind_eq_some_iff] at q
    obtain ⟨⟨rs, ρ1⟩, q1, q2⟩ := q
    split at q2
    · rename_i i rs' er
      obtain rfl : rs = .slot i :: rs' := er
      split at q2
      · rename_i y ey
        simp only [Option.bind_eq_some_iff] at q2
        obtain ⟨ds, q3, ⟨z, x'⟩, q4, q5⟩ := q2
        cases q5
        split at q4
        · rename_i hds
          refine ⟨ρ, _, ρ1, ok, q1, fun vs H1 k1 ok1 o1 => ?_⟩
          obtain ⟨v, ws, rfl, o2, o3⟩ := paired_dat (v := .non) o1
          obtain ⟨es, _⟩ := o2
          obtain ⟨v', e2, a, rfl, ho⟩ := ok1.at' i _ ey
          rw [es] at e2; cases e2
          refine ⟨a, ws, y, ds, z, x', rfl, hds, ho, RvsOk.dat o3 q3, q4, fun v H' kp tr ho' fr => ?_⟩
          have fz := own_fz ho kp
          refine k v H' (k1.trans (kp_setOwn ey es kp tr)) (ok1.setOwn ey es fz kp ho') ?_
          cases z with
          | dat d => exact fr
          | own w =>
            obtain ⟨b, rfl, h1, h2⟩ := fr
            refine ⟨b, rfl, k1.trk b h1, fun j hj => ?_, h2⟩
            have hj' := (kp_setOwn (R := R) ey es kp tr).ownS hj
            obtain ⟨y', _, hy⟩ := ok1.ownAt hj'
            obtain ⟨u, eu, _⟩ := hy.some
            rw [h1] at eu; cases eu
        · cases q4
      · cases q2
    · cases q2
end
end DL

/-! DL8: own lists and dicts that are written: x[i] = v, append, pop, insert, extend; list comprehensions. -/
namespace DL
open PySem PySem.Spec PyProof.Rows L2

/-! ### x[i] = v -/
def putD {κ : Type} [DecidableEq κ] (kvs : List (κ × D)) (k : κ) (v : D) : List (κ × D) :=
  if (kvs.any fun kv => decide (kv.1 = k)) = true then kvs.map (fun kv => if kv.1 = k then (kv.1, v) else kv) else kvs ++ [(k, v)]
def setO : OV → D → D → Option OV
  | .ml xs, .int k, v => (ixN xs.length k).map fun j => .ml (xs.set j v)
  | .mT kvs, .tup ks, v => (toKeys ks).bind fun k => if kvs.length < sizeLine then some (.mT (putD kvs k v)) else none
  | .mK kvs, i, v => (toKey i).bind fun k => if kvs.length < sizeLine then some (.mK (putD kvs k v)) else none
  | _, _, _ => none
section
variable {K : KW} {H H' : Hp} {κ : Type} [DecidableEq κ]
theorem put_rel {v : V} {d : D} {k : κ} {kv : List (κ × V)} {kvs : List (κ × D)} (e : kv.map (·.1) = kvs.map (·.1)) (hd : Dvs K H (kv.map (·.2)) (kvs.map (·.2))) (hv : Dv K H v d) :
    (putK kv k v).map (·.1) = (putD kvs k d).map (·.1) ∧ Dvs K H ((putK kv k v).map (·.2)) ((putD kvs k d).map (·.2)) := by
  have an : (kv.any fun z => decide (z.1 = k)) = kvs.any fun z => decide (z.1 = k) := by
    have h1 : (kv.any fun z => decide (z.1 = k)) = (kv.map (·.1)).any fun z => decide (z = k) := by rw [List.any_map]; rfl
    have h2 : (kvs.any fun z => decide (z.1 = k)) = (kvs.map (·.1)).any fun z => decide (z = k) := by rw [List.any_map]; rfl
    rw [h1, h2, e]
  unfold putK putD
  rw [an]
  split
  · clear an
    rename_i hc
    clear hc
    induction kv generalizing kvs with
    | nil =>
      cases kvs with
      | nil => exact ⟨rfl, .nil⟩
      | cons => simp at e
    | cons p r ih =>
      cases kvs with
      | nil => simp at e
      | cons q t =>
        simp only [List.map_cons, List.cons.injEq] at e hd ⊢
        cases hd with
        | cons d1 d2 =>
          obtain ⟨i1, i2⟩ := ih e.2 d2
          have e1 : p.1 = q.1 := e.1
          by_cases h : p.1 = k
          · have h' : q.1 = k := e1 ▸ h
            rw [if_pos h, if_pos h']
            exact ⟨⟨e1, i1⟩, .cons hv i2⟩
          · have h' : ¬ q.1 = k := fun z => h (e1.trans z)
            rw [if_neg h, if_neg h']
            exact ⟨⟨e1, i1⟩, .cons d1 i2⟩
  · rw [List.map_append, List.map_append, List.map_append, List.map_append, e]
    exact ⟨rfl, hd.append (.cons hv .nil)⟩
theorem Rv.mono_own {v : V} {d : D} {a : Addr} {x : OV} : OwnAt K H a x → True := fun _ => trivial
def gSet (K : KW) (F : OV → D → D → Option OV) : TSet := fun o i v H Q => ∃ a x d dv x', o = .ref a ∧ OwnAt K H a x ∧ Rv K H i d ∧ Dv K H v dv ∧ F x d dv = some x' ∧
  ∀ H', (∀ b u, b ≠ a → H b = some u → H' b = some u) → (∀ b, H' b = none → H b = none) → OwnAt K H' a x' → Q H'
theorem upd_keep {a : Addr} {o : HO} : ∀ b u, b ≠ a → H b = some u → upd H a o b = some u := fun b u h e => by rw [upd_ne h]; exact e
theorem upd_trk {a : Addr} {o u : HO} (h : H a = some u) : ∀ b, upd H a o b = none → H b = none := fun b e => by
  by_cases hb : b = a
  · rw [hb, upd_same] at e; cases e
  · rw [upd_ne hb] at e; exact e
theorem upd_own_fz {a : Addr} {o u : HO} (h : H a = some u) (nf : ¬ Froz (some u)) : Fz H (upd H a o) := fun b f => by
  by_cases hb : b = a
  · subst hb
    rw [h] at f
    exact (nf f).elim
  · rw [upd_ne hb]
end
section
variable {X : Cx}
theorem o_set (hu : X.A.units + 1 < cLine) : PSet X (gSet (kw X) setO) := by
  intro pins s σ H o i v ov iv u Q I ro ri rv h
  obtain ⟨a, x, d, dv, x', rfl, ho, hd, hv, hF, k⟩ := h
  unfold setO at hF
  split at hF
  · rename_i xs n
    simp only [Option.map_eq_some_iff] at hF
    obtain ⟨j, e, rfl⟩ := hF
    obtain ⟨vs, e1, h1⟩ := ho
    refine set_list pins s σ H _ i v ov iv u Q I ro ri rv ⟨a, vs, n, j, rfl, rv_int hd, e1, by rw [h1.length]; exact e, ?_⟩
    have fz := upd_own_fz (o := .lst (vs.set j v)) e1 id
    exact k _ upd_keep (upd_trk e1) ⟨_, upd_same, (h1.set j hv).mono fz⟩
  · rename_i kvs ks
    simp only [Option.bind_eq_some_iff] at hF
    obtain ⟨kk, e, hF⟩ := hF
    split at hF
    · rename_i hz
      cases hF
      obtain ⟨kv, e1, e2, h1⟩ := ho
      obtain ⟨b, ws, rfl, g1, g2⟩ := rv_tup hd
      rw [dvs_keys e g2] at g1
      have hl : kv.length < sizeLine := by rw [show kv.length = _ by simpa using congrArg List.length e2]; exact hz
      have fz := upd_own_fz (o := .dT (putK kv kk v)) e1 id
      obtain ⟨p1, p2⟩ := put_rel (k := kk) e2 h1 hv
      exact set_dict hu pins s σ H _ _ v ov iv u Q I ro ri rv ⟨a, _, rfl, DPut.t e1 g1 hl, k _ upd_keep (upd_trk e1) ⟨_, upd_same, p1, p2.mono fz⟩⟩
    · cases hF
  · simp only [Option.bind_eq_some_iff] at hF
    obtain ⟨kk, e, hF⟩ := hF
    split at hF
    · rename_i hz
      cases hF
      obtain ⟨kv, e1, e2, h1⟩ := ho
      have hl : kv.length < sizeLine := by rw [show kv.length = _ by simpa using congrArg List.length e2]; exact hz
      have fz := upd_own_fz (o := .dK (putK kv kk v)) e1 id
      obtain ⟨p1, p2⟩ := put_rel (k := kk) e2 h1 hv
      have ei := rv_key e hd
      subst ei
      exact set_dict hu pins s σ H _ _ v ov iv u Q I ro ri rv ⟨a, _, rfl, DPut.k e1 hl, k _ upd_keep (upd_trk e1) ⟨_, upd_same, p1, p2.mono fz⟩⟩
    · cases hF
  · cases hF
end
/-- x[i] = e, x in the slot j -/
def itemF (j : Nat) (fe fi : FE) (F : OV → D → D → Option OV) : FS := fun ρ => (fe ρ).bind fun p => match p.1 with
  | .dat v => (varD j p.2).bind fun o => (fi o.2).bind fun q => (rd q.2 q.1).bind fun d => match q.2[j]? with
    | some (some (.own x)) => (F x d v).bind fun x' => some (.next, q.2.set j (some (.own x')))
    | _ => none
  | _ => none
section
variable {X : Cx} {R : List Nat} {e i : Expr} {pos tpos npos : Pos}
theorem varD_own {j : Nat} {ρ ρ' : EnvD} {r : RV} (h : varD j ρ = some (r, ρ')) : ρ' = ρ := by
  unfold varD at h
  split at h <;> cases h <;> rfl
theorem ds_item (j : Nat) {x : Str} {fe fi : FE} {F : OV → D → D → Option OV} (hF : PSet X (gSet (kw X) F)) (he : DE X R e fe) (hi : DE X R i fi) (hN : X.N[j]? = some x := by rfl) (hv : Vis X.env.scope x := by first | exact Or.inl rfl | exact Or.inr (Or.inl rfl) | exact Or.inr (Or.inr rfl))
    (hd : (x == ("__debug__" : Str)) = false := by decide) (hcd : (x == ("__classdict__" : Str)) = false := by decide)
    (ha : ∀ v, assign (.Subscript (.Name x npos) i tpos) X.env v = (do
      let ov ← holding [v] (eval (.Name x npos) X.env)
      let iv ← holding [v, ov] (eval i X.env)
      standAt tpos
      holding [v, ov, iv] (setItem ov iv v)
      release [v, ov, iv] []) := by intro _; rfl)
    (hs : swapsWithSole [.Subscript (.Name x npos) i tpos] e pos.line X.env = pure false := by rfl) (hw : swappedStores [.Subscript (.Name x npos) i tpos] e X.env = pure none := by rfl)
    (h1 : (assignEach [.Subscript (.Name x npos) i tpos] X.env).map (·.2) = [assign (.Subscript (.Name x npos) i tpos) X.env] := by rfl) :
    DS X R (.Assign [.Subscript (.Name x npos) i tpos] e pos) (itemF j fe fi F) :=
  ps_imp (ps_asg he (pg_sub (pe_var hN hv hd hcd) hi hF ha) hs hw h1) fun D σ H h => by
    obtain ⟨H0, S, ρ, fl, ρ', hR, b, q, k⟩ := h
    simp only [itemF, Option.bind_eq_some_iff] at q
    obtain ⟨⟨r, ρ1⟩, q1, q2⟩ := q
    subst hR
    split at q2
    · rename_i d er
      obtain rfl : r = .dat d := er
      simp only [Option.bind_eq_some_iff] at q2
      obtain ⟨⟨o, ρ2⟩, q3, ⟨ri, ρ3⟩, q4, di, q5, q6⟩ := q2
      split at q6
      · rename_i y ey
        simp only [Option.bind_eq_some_iff] at q6
        obtain ⟨x', q7, q8⟩ := q6
        cases q8
        refine tE_bd (fun _ _ _ z => z) b q1 fun v H1 b1 z1 o1 => ?_
        obtain rfl := varD_own q3
        -- the slot
        obtain ⟨sv, esv⟩ : ∃ y, ρ2[j]? = some (some y) := by
          unfold varD at q3
          split at q3
          · exact ⟨_, by assumption⟩
          · exact ⟨_, by assumption⟩
          · cases q3
        obtain ⟨w, ew, hw'⟩ := b1.env.at' j sv esv
        refine ⟨w, ew, ρ2, ri, ρ3, b1.env, q4, fun iv H2 k2 ok2 o2 => ?_⟩
        obtain ⟨w', ew', a, rfl, ho⟩ := ok2.at' j _ ey
        rw [ew] at ew'; cases ew'
        refine ⟨a, y, di, d, x', rfl, ho, RvOk.rd o2 ok2 q5, Dv.mono (k2.fz b1.env) o1, q7, fun H3 kp tr ho3 => ?_⟩
        have b2 := b1.step k2 ok2
        have fz := own_fz ho kp
        exact k σ H3 (b2.step (kp_setOwn ey ew kp tr) (ok2.setOwn ey ew fz kp ho3)) ((z1.trans (k2.fz b1.env)).trans fz)
      · cases q6
    · cases q2
end

/-! ### methods that write -/
def gMu (K : KW) (F : OV → List D → Option (D × OV)) : V → List V → Hp → VK → Prop := fun x xs H Q => ∃ a o ds z o', x = .ref a ∧ OwnAt K H a o ∧ Dvs K H xs ds ∧ F o ds = some (z, o') ∧
  ∀ v H', (∀ b u, b ≠ a → H b = some u → H' b = some u) → (∀ b, H' b = none → H b = none) → OwnAt K H' a o' → Dv K H' v z → Q v H'
def appO : OV → List D → Option (D × OV)
  | .ml xs, [d] => if xs.length < sizeLine then some (.non, .ml (xs ++ [d])) else none
  | _, _ => none
def popO : OV → List D → Option (D × OV)
  | .ml xs, [.int i] => if -(2 ^ 63) ≤ i ∧ i < 2 ^ 63 then (seqIndex? i xs.length).bind fun k => (xs[k]?).map fun d => (d, .ml (xs.eraseIdx k)) else none
  | _, _ => none
def insO : OV → List D → Option (D × OV)
  | .ml xs, [.int i, d] => if xs.length < sizeLine ∧ 0 ≤ i ∧ i < 2 ^ 63 then some (.non, .ml (xs.take i.toNat ++ d :: xs.drop i.toNat)) else none
  | _, _ => none
section
variable {X : Cx}
theorem dvs1 {K : KW} {H : Hp} {vs : List V} {d : D} (h : Dvs K H vs [d]) : ∃ v, vs = [v] ∧ Dv K H v d := by
  cases h with
  | cons h t => cases t; exact ⟨_, rfl, h⟩
theorem dvs2 {K : KW} {H : Hp} {vs : List V} {d e : D} (h : Dvs K H vs [d, e]) : ∃ v w, vs = [v, w] ∧ Dv K H v d ∧ Dv K H w e := by
  cases h with
  | cons h t => cases t with
    | cons h2 t => cases t; exact ⟨_, _, rfl, h, h2⟩
theorem dv_int {K : KW} {H : Hp} {v : V} {i : Int} (h : Dv K H v (.int i)) : v = .int i := by cases h; rfl
theorem m_append : MtR X "list.append" (gMu (kw X) appO) := by
  intro pins s σ H x xs v us Q I rx rxs h
  obtain ⟨a, o, ds, z, o', rfl, ho, hd, hF, k⟩ := h
  unfold appO at hF
  split at hF
  · split at hF
    · rename_i hz
      cases hF
      obtain ⟨vs, e1, h1⟩ := ho
      obtain ⟨w, rfl, hw⟩ := dvs1 hd
      have fz := upd_own_fz (o := .lst (vs ++ [w])) e1 id
      exact mt_append pins s σ H _ _ v us Q I rx rxs ⟨a, vs, w, rfl, rfl, e1, by rw [h1.length]; exact hz, k _ _ upd_keep (upd_trk e1) ⟨_, upd_same, (h1.append (.cons hw .nil)).mono fz⟩ .non⟩
    · cases hF
  · cases hF
theorem m_pop : MtR X "list.pop" (gMu (kw X) popO) := by
  intro pins s σ H x xs v us Q I rx rxs h
  obtain ⟨a, o, ds, z, o', rfl, ho, hd, hF, k⟩ := h
  unfold popO at hF
  split at hF
  · split at hF
    · rename_i hi
      simp only [Option.bind_eq_some_iff, Option.map_eq_some_iff] at hF
      obtain ⟨j, ej, d, ed, e3⟩ := hF
      cases e3
      obtain ⟨vs, e1, h1⟩ := ho
      obtain ⟨w, rfl, hw⟩ := dvs1 hd
      obtain ⟨y, ey, hy⟩ := h1.get ed
      have fz := upd_own_fz (o := .lst (vs.eraseIdx j)) e1 id
      exact mt_popAt pins s σ H _ _ v us Q I rx rxs ⟨a, vs, _, j, y, rfl, by rw [dv_int hw], e1, hi.1, hi.2, by rw [h1.length]; exact ej, ey, k _ _ upd_keep (upd_trk e1) ⟨_, upd_same, (h1.eraseIdx j).mono fz⟩ (Dv.mono fz hy)⟩
    · cases hF
  · cases hF
end
def mutF (j : Nat) (g : FA) (F : OV → List D → Option (D × OV)) : FE := fun ρ => (varD j ρ).bind fun o => match ρ[j]? with
  | some (some (.own _)) => (g o.2).bind fun q => (datA q.1).bind fun ds => match q.2[j]? with
    | some (some (.own x)) => (F x ds).bind fun w => some (.dat w.1, q.2.set j (some (.own w.2)))
    | _ => none
  | _ => none
section
variable {X : Cx} {R : List Nat} {e : Expr} {es : List Expr} {apos cpos npos : Pos} {name : Str}
theorem own_tyL {K : KW} {H : Hp} {a : Addr} {ds : List D} (h : OwnAt K H a (.ml ds)) : tyV K.K "list" (.ref a) H := by
  obtain ⟨vs, e, _⟩ := h
  exact .inl ⟨rfl, vs, SqL.of e⟩
/-- x.m(e, ..) of an own list in the slot j -/
theorem de_mut (j : Nat) {x : Str} {id : String} {g : FA} {F : OV → List D → Option (D × OV)} (hF : MtR X id (gMu (kw X) F)) (slot : Slot "list" name id) (hty : typeOf (.builtin id) = pure (.type "method_descriptor")) (ha : DA X R (e :: es) g) (hFl : ∀ o ds w, F o ds = some w → ∃ xs, o = .ml xs)
    (hN : X.N[j]? = some x := by rfl) (hv : Vis X.env.scope x := by first | exact Or.inl rfl | exact Or.inr (Or.inl rfl) | exact Or.inr (Or.inr rfl)) (hd : (x == ("__debug__" : Str)) = false := by decide) (hcd : (x == ("__classdict__" : Str)) = false := by decide)
    (hbase : attributeBase (.Name x npos) name X.env (eval (.Name x npos) X.env) = eval (.Name x npos) X.env := by rfl)
    (hfew : ((backTo cpos (starEach (e :: es) X.env)).all (fun x => !x.1) && (backToKw cpos (keywordEach [] X.env)).all (fun x => x.1.isSome)
      && decide ((e :: es).length + ([] : List Keyword).length + (if ([] : List Keyword).isEmpty then 0 else 1) < 30)) = true := by rfl)
    (hline : (apos.endLine == cpos.line) = true := by rfl) (hs : starEach (e :: es) X.env = (false, eval e X.env) :: starEach es X.env := by rfl) (hplain : (backTo cpos (starEach es X.env)).any (·.1) = false := by rfl)
    (hkind : ∀ σ ρ H, EnvOk (kw X) H σ ρ → ∀ y, ρ[j]? = some (some (.own y)) → (∃ q ds w, F q ds = some w ∧ True) → (∃ xs, y = .ml xs) ∨ True := by intros; exact .inr trivial) :
    DE X R (.Call (.Attribute (.Name x npos) name apos) (e :: es) [] cpos) (fun ρ => match ρ[j]? with | some (some (.own (.ml _))) => mutF j g F ρ | _ => none) :=
  pe_imp (pe_bm PySem.F.plainAttrs_list slot hty hF (pe_var hN hv hd hcd) ha hbase hfew hline hs hplain) fun σ H Q hq => by
    obtain ⟨ρ, r', ρ', ok, q, k⟩ := hq
    dsimp only at q
    split at q
    · rename_i xs0 e0
      simp only [mutF, Option.bind_eq_some_iff] at q
      obtain ⟨⟨o, ρ0⟩, q0, q⟩ := q
      obtain rfl := varD_own q0
      rw [e0] at q
      simp only [Option.bind_eq_some_iff] at q
      obtain ⟨⟨rs, ρ1⟩, q1, ds, q2, q3⟩ := q
      split at q3
      · rename_i y ey
        simp only [Option.bind_eq_some_iff] at q3
        obtain ⟨⟨z, o'⟩, q4, q5⟩ := q3
        cases q5
        obtain ⟨w, ew, a, rfl, ho⟩ := ok.at' j _ e0
        refine ⟨.ref a, ew, own_tyL ho, ρ0, rs, ρ1, ok, q1, fun vs H1 k1 ok1 o1 => ?_⟩
        obtain ⟨w', ew', a', e', ho'⟩ := ok1.at' j _ ey
        rw [ew] at ew'; cases ew'
        cases e'
        refine ⟨a, y, ds, z, o', rfl, ho', RvsOk.dat o1 q2, q4, fun v H2 kp tr ho2 hz => ?_⟩
        have fz := own_fz ho' kp
        exact k v H2 (k1.trans (kp_setOwn ey ew kp tr)) (ok1.setOwn ey ew fz kp ho2) hz
      · cases q3
    · cases q

end

/-! ### list comprehensions -/
def wipeD (ρ : EnvD) : List Nat → EnvD
  | [] => ρ
  | v :: vs => (wipeD ρ vs).set v none
def compL (vs : List Nat) (g : FG) (t : FT) (f : FE) : List D → EnvD → Option (List D × EnvD)
  | [], ρ => some ([], ρ)
  | d :: ds, ρ => (g d ρ).bind fun ρ1 => (t ρ1).bind fun b => if b.1 = true then (f b.2).bind fun p => match p.1 with
      | .dat y => (compL vs g t f ds (wipeD p.2 vs)).bind fun q => some (y :: q.1, q.2)
      | _ => none
    else compL vs g t f ds (wipeD b.2 vs)
def noneAt (ρ : EnvD) (vs : List Nat) : Bool := vs.all fun i => match ρ[i]? with
  | some none => true
  | _ => false
theorem noneAt_iff {ρ : EnvD} {vs : List Nat} : noneAt ρ vs = true ↔ ∀ i ∈ vs, ρ[i]? = some none := by
  unfold noneAt
  rw [List.all_eq_true]
  refine forall_congr' fun i => forall_congr' fun _ => ?_
  split
  · rename_i h; simp [h]
  · rename_i h; simp; exact h
def lcF (vs : List Nat) (fi : FI) (g : FG) (t : FT) (f : FE) : FE := fun ρ => (fi ρ).bind fun p => if noneAt p.2 vs = true ∧ p.1.length ≤ sizeLine then (compL vs g t f p.1 p.2).bind fun q => some (.own (.ml q.1), q.2) else none
def yesT : FT := fun ρ => some (true, ρ)
abbrev DTs (X : Cx) (R : List Nat) (es : List Expr) (f : FT) : Prop := PTs X es (tT (kw X) R f)
theorem dts_nil {X : Cx} {R : List Nat} : DTs X R [] yesT := ⟨fun pins s σ H Q I hq => by
  obtain ⟨ρ, r', ρ', ok, q, k⟩ := hq
  cases q
  exact pts_nil.run pins s σ H Q I (k H Kp.refl ok)⟩
theorem dts_one {X : Cx} {R : List Nat} {c : Expr} {t : FT} (h : DT X R c t) : DTs X R [c] t := pts_one h
theorem wipeD_get {vs : List Nat} {ρ : EnvD} {i : Nat} {x : SV} : (wipeD ρ vs)[i]? = some (some x) ↔ i ∉ vs ∧ ρ[i]? = some (some x) := by
  induction vs with
  | nil => simp [wipeD]
  | cons v r ih =>
    unfold wipeD
    by_cases h : v = i
    · subst h
      by_cases hl : v < (wipeD ρ r).length
      · rw [List.getElem?_set_self hl]
        simp
      · rw [List.getElem?_eq_none (by simpa using hl)]
        simp
    · rw [List.getElem?_set_ne h, ih]
      simp [Ne.symm h]
theorem wipeD_len {vs : List Nat} {ρ : EnvD} : (wipeD ρ vs).length = ρ.length := by
  induction vs with
  | nil => rfl
  | cons v r ih => unfold wipeD; rw [List.length_set, ih]
theorem wipe_get {vs : List Nat} {σ : Sl} {i : Nat} (h : i ∉ vs) : (wipe σ vs)[i]? = σ[i]? := by
  induction vs with
  | nil => rfl
  | cons v r ih =>
    unfold wipe
    rw [List.mem_cons, not_or] at h
    rw [List.getElem?_set_ne (fun z => h.1 z.symm), ih h.2]
theorem wipe_at {vs : List Nat} {σ : Sl} {i : Nat} (h : i ∈ vs) (hl : i < σ.length) : (wipe σ vs)[i]? = some none := by
  induction vs with
  | nil => cases h
  | cons v r ih =>
    unfold wipe
    by_cases hv : v = i
    · subst hv
      rw [List.getElem?_set_self (by rw [wipe_length]; exact hl)]
    · rw [List.getElem?_set_ne hv]
      exact ih ((List.mem_cons.mp h).resolve_left fun z => hv z.symm)
theorem wipe_ast {vs : List Nat} {σ σ' : Sl} {ρ ρ' : EnvD} (a : Ast vs (wipe σ vs) ρ σ' ρ') : wipe σ' vs = wipe σ vs := by
  apply List.ext_getElem?
  intro i
  have hl : σ'.length = σ.length := by rw [a.len, wipe_length]
  by_cases hi : i ∈ vs
  · by_cases h2 : i < σ.length
    · rw [wipe_at hi (by omega), wipe_at hi h2]
    · rw [List.getElem?_eq_none (by rw [wipe_length]; omega), List.getElem?_eq_none (by rw [wipe_length]; omega)]
  · rw [wipe_get hi, (a.off i hi).1]
section
variable {K : KW} {vs : List Nat} {σ σ' : Sl} {ρ ρ' : EnvD} {H H' : Hp} {R : List Nat}
theorem ownS_wipe {i : Nat} {a : Addr} : OwnS (wipe σ vs) (wipeD ρ vs) i a ↔ i ∉ vs ∧ OwnS σ ρ i a := by
  unfold OwnS
  constructor
  · rintro ⟨⟨x, h1⟩, h2⟩
    obtain ⟨h3, h4⟩ := wipeD_get.mp h1
    rw [wipe_get h3] at h2
    exact ⟨h3, ⟨x, h4⟩, h2⟩
  · rintro ⟨h3, ⟨x, h4⟩, h2⟩
    exact ⟨⟨x, wipeD_get.mpr ⟨h3, h4⟩⟩, by rw [wipe_get h3]; exact h2⟩
theorem EnvOk.wipe (e : EnvOk K H σ ρ) : EnvOk K H (wipe σ vs) (wipeD ρ vs) := by
  refine ⟨by rw [wipe_length, wipeD_len]; exact e.len, fun i x h => ?_, fun i j a hi hj => e.sep i j a (ownS_wipe.mp hi).2 (ownS_wipe.mp hj).2⟩
  obtain ⟨h1, h2⟩ := wipeD_get.mp h
  obtain ⟨v, h3, hv⟩ := e.at' i x h2
  exact ⟨v, by rw [wipe_get h1]; exact h3, hv⟩
theorem none_wipeD (h : ∀ i ∈ vs, ρ[i]? = some none) : ∀ {i : Nat} {x : SV}, ρ[i]? = some (some x) → i ∉ vs := fun e hi => by rw [h _ hi] at e; cases e
theorem ownS_block (h : ∀ i ∈ vs, ρ[i]? = some none) {i : Nat} {a : Addr} : OwnS (wipe σ vs) ρ i a ↔ OwnS σ ρ i a := by
  unfold OwnS
  constructor
  · rintro ⟨⟨x, h1⟩, h2⟩
    rw [wipe_get (none_wipeD h h1)] at h2
    exact ⟨⟨x, h1⟩, h2⟩
  · rintro ⟨⟨x, h1⟩, h2⟩
    exact ⟨⟨x, h1⟩, by rw [wipe_get (none_wipeD h h1)]; exact h2⟩
theorem EnvOk.block (e : EnvOk K H σ ρ) (h : ∀ i ∈ vs, ρ[i]? = some none) : EnvOk K H (L2.wipe σ vs) ρ := by
  refine ⟨by rw [wipe_length]; exact e.len, fun i x h1 => ?_, fun i j a hi hj => e.sep i j a ((ownS_block h).mp hi) ((ownS_block h).mp hj)⟩
  obtain ⟨v, h3, hv⟩ := e.at' i x h1
  exact ⟨v, by rw [wipe_get (none_wipeD h h1)]; exact h3, hv⟩
theorem EnvOk.unblock (e : EnvOk K H (L2.wipe σ vs) ρ) (h : ∀ i ∈ vs, ρ[i]? = some none) : EnvOk K H σ ρ := by
  refine ⟨by rw [← e.len, wipe_length], fun i x h1 => ?_, fun i j a hi hj => e.sep i j a ((ownS_block h).mpr hi) ((ownS_block h).mpr hj)⟩
  obtain ⟨v, h3, hv⟩ := e.at' i x h1
  exact ⟨v, by rw [wipe_get (none_wipeD h h1)] at h3; exact h3, hv⟩
theorem wipeD_none {i : Nat} (h : i ∈ vs) (hl : i < ρ.length) : (wipeD ρ vs)[i]? = some none := by
  induction vs with
  | nil => cases h
  | cons v r ih =>
    unfold wipeD
    by_cases hv : v = i
    · subst hv
      rw [List.getElem?_set_self (by rw [wipeD_len]; exact hl)]
    · rw [List.getElem?_set_ne hv]
      exact ih ((List.mem_cons.mp h).resolve_left fun z => hv z.symm)
/-- one turn of a comprehension, from its target to the wiped slots -/
theorem kp_turn {σ2 : Sl} {ρ1 ρ3 : EnvD} {H1 H3 : Hp} (h0 : ∀ i ∈ vs, ρ[i]? = some none) (a : Ast vs (L2.wipe σ vs) ρ σ2 ρ1) (k : Kp R σ2 ρ1 H1 ρ3 H3) : Kp R (L2.wipe σ vs) ρ H1 (wipeD ρ3 vs) H3 where
  obj := fun b o e n => k.obj b o e fun i hi => by
    obtain ⟨⟨x, h1⟩, h2⟩ := hi
    by_cases hv : i ∈ vs
    · exact a.dat i hv x h1
    · rw [(a.off i hv).2] at h1
      rw [(a.off i hv).1] at h2
      exact n i ⟨⟨x, h1⟩, h2⟩
  trk := k.trk
  own := fun i x e => by
    obtain ⟨h1, h2⟩ := wipeD_get.mp e
    obtain ⟨y, h3⟩ := k.own i x h2
    exact ⟨y, by rw [← (a.off i h1).2]; exact h3⟩
  ref := fun i hi y e => by
    have hv := none_wipeD h0 e
    obtain ⟨x, h3⟩ := k.ref i hi y (by rw [(a.off i hv).2]; exact e)
    exact ⟨x, wipeD_get.mpr ⟨hv, h3⟩⟩
  full := fun i x e => by
    have hv := none_wipeD h0 e
    obtain ⟨y, h3⟩ := k.full i x (by rw [(a.off i hv).2]; exact e)
    exact ⟨y, wipeD_get.mpr ⟨hv, h3⟩⟩
end
theorem kp_unblock {vs : List Nat} {R : List Nat} {σ : Sl} {ρ ρ' : EnvD} {H H' : Hp} (h : ∀ i ∈ vs, ρ[i]? = some none) (k : Kp R (L2.wipe σ vs) ρ H ρ' H') : Kp R σ ρ H ρ' H' :=
  ⟨fun b o e n => k.obj b o e fun i hi => n i ((ownS_block h).mp hi), k.trk, k.own, k.ref, k.full⟩
section
variable {X : Cx} {R : List Nat} {elt tg iter : Expr} {ifs : List Expr} {scope : Scope} {own : List (Str × Nat)} {pos : Pos}
theorem lc_red {vs : List Nat} {fi : FI} {g : FG} {t : FT} {f : FE} {σ : Sl} {H : Hp} {Q : VK} (hq : tE (kw X) R (lcF vs fi g t f) σ H Q) : tLc (tI (kw X) R fi) (tG (kw X) vs g) (tT (kw X) R t) (tE (kw X) R f) vs σ H Q := by
    obtain ⟨ρ, r', ρ', okE, q, k⟩ := hq
    simp only [lcF, Option.bind_eq_some_iff] at q
    obtain ⟨⟨ds, ρ1⟩, q1, q2⟩ := q
    split at q2
    · rename_i hn
      obtain ⟨hn, hsz⟩ := hn
      replace hn := noneAt_iff.mp hn
      have hsz : ds.length ≤ sizeLine := hsz
      simp only [Option.bind_eq_some_iff] at q2
      obtain ⟨⟨out, ρ2⟩, q3, q4⟩ := q2
      cases q4
      refine ⟨ρ, ds, ρ1, okE, q1, fun J H1 k1 ok1 gs => ?_⟩
      intro D hD
      have lenρ : ∀ i ∈ vs, i < ρ1.length := fun i hi => (List.getElem?_eq_some_iff.mp (hn i hi)).1
      refine ⟨fun i m H' => ∃ ρi acc vacc rest, m = ds.length - i ∧ i ≤ ds.length ∧ EnvOk (kw X) H' (wipe σ vs) ρi ∧ (∀ j ∈ vs, ρi[j]? = some none) ∧ Kp R (wipe σ vs) ρ1 H1 ρi H' ∧ H' D = some (.lst vacc) ∧ Dvs (kw X) H' vacc acc ∧ acc.length ≤ i ∧
        compL vs g t f (ds.drop i) ρi = some (rest, ρ2) ∧ out = acc ++ rest, ⟨_, ρ1, [], [], out, rfl, Nat.zero_le _, ?_, hn, ?_, upd_same, .nil, Nat.le_refl _, q3, rfl⟩, fun i m H2 hW => ?_⟩
      · have sm := same_new (o := HO.lst []) hD
        exact (ok1.same sm).block hn
      · exact Kp.same (same_new hD)
      · obtain ⟨ρi, acc, vacc, rest, rfl, hle, ok2, hn2, k2, eD, hacc, hal, q5, eo⟩ := hW
        have ok1b := ok1.block hn (vs := vs)
        have fz2 := k2.fz ok1b
        have go := gs H2 fz2 i
        have nD : ∀ {j : Nat}, ¬ OwnS (wipe σ vs) ρi j D := fun {j} hj => by
          have h1 := (k2.ownS hj)
          obtain ⟨y, _, hy⟩ := ok1b.ownAt h1
          obtain ⟨u, eu, _⟩ := hy.some
          rw [hD] at eu; cases eu
        by_cases hlt : i < ds.length
        · have ei : ds[i]? = some ds[i] := List.getElem?_eq_getElem hlt
          obtain ⟨g1, g2⟩ := go.2 _ ei
          rw [List.drop_eq_getElem_cons hlt] at q5
          simp only [compL, Option.bind_eq_some_iff] at q5
          obtain ⟨ρa, q6, ⟨b, ρb⟩, q7, q8⟩ := q5
          refine .inr ⟨g1, fun H5 => ∃ ρi acc vacc rest, EnvOk (kw X) H5 (wipe σ vs) ρi ∧ (∀ j ∈ vs, ρi[j]? = some none) ∧ Kp R (wipe σ vs) ρ1 H1 ρi H5 ∧ H5 D = some (.lst vacc) ∧ Dvs (kw X) H5 vacc acc ∧ acc.length ≤ i + 1 ∧
            compL vs g t f (ds.drop (i + 1)) ρi = some (rest, ρ2) ∧ out = acc ++ rest, fun H5 hN => ?_, fun x H3 hy => ?_⟩
          · obtain ⟨ρi, acc, vacc, rest, h1, h2, h3, h4, h5, h6, h7, h8⟩ := hN
            exact ⟨ds.length - (i + 1), by omega, ρi, acc, vacc, rest, rfl, hlt, h1, h2, h3, h4, h5, h6, h7, h8⟩
          · obtain ⟨sm, hx⟩ := g2 x H3 hy
            have ok3 := ok2.same sm
            refine ⟨ρi, ds[i], ρa, ok3, hx, q6, fun σ4 ok4 a4 => ?_⟩
            refine ⟨wipe_ast a4, ρa, b, ρb, ok4, q7, fun H4 k4 okb => ?_⟩
            have eD3 : H3 D = some (.lst vacc) := sm D _ eD
            have nD4 : ∀ {j : Nat}, ¬ OwnS σ4 ρa j D := fun {j} hj => by
              obtain ⟨⟨x, h1⟩, h2⟩ := hj
              by_cases hv : j ∈ vs
              · exact a4.dat j hv x h1
              · rw [(a4.off j hv).2] at h1
                rw [(a4.off j hv).1] at h2
                exact nD ⟨⟨x, h1⟩, h2⟩
            have eD4 : H4 D = some (.lst vacc) := k4.obj D _ eD3 fun j hj => nD4 hj
            have lenb : ∀ {ρz : EnvD} {σz : Sl} {Hz : Hp}, EnvOk (kw X) Hz σz ρz → σz.length = σ.length → ∀ j ∈ vs, (wipeD ρz vs)[j]? = some none := fun {ρz σz Hz} e el j hj => wipeD_none hj (by
              have h1 := lenρ j hj
              have h2 := ok1.len
              have h3 := e.len
              omega)
            have l4 : σ4.length = σ.length := by rw [a4.len, wipe_length]
            have fzA : Fz H2 H4 := (Fz.of_same sm).trans (k4.fz ok4)
            dsimp only
            by_cases hb : b = true
            · rw [if_pos hb] at q8 ⊢
              simp only [Option.bind_eq_some_iff] at q8
              obtain ⟨⟨re, ρe⟩, q9, q10⟩ := q8
              refine ⟨ρb, re, ρe, okb, q9, fun y H5 k5 ok5 o5 => ?_⟩
              have eD5 : H5 D = some (.lst vacc) := k5.obj D _ eD4 fun j hj => nD4 (k4.ownS hj)
              split at q10
              · rename_i dy er
                obtain rfl : re = .dat dy := er
                simp only [Option.bind_eq_some_iff] at q10
                obtain ⟨⟨ys, ρz⟩, q11, q12⟩ := q10
                cases q12
                have fz5 : Fz H2 H5 := fzA.trans (k5.fz okb)
                have fzD := upd_own_fz (o := .lst (vacc ++ [y])) eD5 id
                have hacc5 : Dvs (kw X) H5 vacc acc := hacc.mono fz5
                have okw : EnvOk (kw X) H5 (wipe σ vs) (wipeD ρe vs) := by
                  have := ok5.wipe (vs := vs)
                  rw [wipe_ast a4] at this
                  exact this
                have kw : Kp R (wipe σ vs) ρ1 H1 (wipeD ρe vs) H5 := (k2.trans (Kp.same sm)).trans (kp_turn hn2 a4 (k4.trans k5))
                have nD5 : ∀ {j : Nat}, ¬ OwnS (wipe σ vs) (wipeD ρe vs) j D := fun {j} hj => nD ((kp_turn hn2 a4 (k4.trans k5)).ownS hj)
                refine ⟨vacc, eD5, by rw [hacc.length]; omega, wipeD ρe vs, acc ++ [dy], vacc ++ [y], ys, ?_, lenb ok5 l4, ?_, upd_same, (hacc5.append (.cons o5 .nil)).mono fzD, by rw [List.length_append, List.length_singleton]; omega, q11, by rw [eo, List.append_assoc]; rfl⟩
                · refine ⟨okw.len, fun j z e => ?_, okw.sep⟩
                  obtain ⟨w, e1, hw⟩ := okw.at' j z e
                  refine ⟨w, e1, ?_⟩
                  cases z with
                  | dat d => exact Dv.mono fzD hw
                  | own z =>
                    obtain ⟨c, rfl, hc⟩ := hw
                    have hne : c ≠ D := fun z' => nD5 (j := j) ⟨⟨z, e⟩, by rw [← z']; exact e1⟩
                    exact ⟨c, rfl, hc.mono fzD (upd_ne hne)⟩
                · refine ⟨fun c o e n => ?_, fun c e => ?_, kw.own, kw.ref, kw.full⟩
                  · rw [upd_ne (ne_of_none e hD)]
                    exact kw.obj c o e n
                  · by_cases hc : c = D
                    · rw [hc]; exact hD
                    · rw [upd_ne hc] at e
                      exact kw.trk c e
              · cases q10
            · rw [if_neg hb] at q8 ⊢
              have okw : EnvOk (kw X) H4 (wipe σ vs) (wipeD ρb vs) := by
                have := okb.wipe (vs := vs)
                rw [wipe_ast a4] at this
                exact this
              exact ⟨wipeD ρb vs, acc, vacc, rest, okw, lenb okb l4, (k2.trans (Kp.same sm)).trans (kp_turn hn2 a4 k4), eD4, hacc.mono fzA, by omega, q8, eo⟩
        · rw [List.drop_of_length_le (by omega)] at q5
          cases q5
          refine .inl ⟨go.1 (by omega), ?_⟩
          rw [List.append_nil] at eo
          subst eo
          have okF : EnvOk (kw X) H2 σ ρ2 := ok2.unblock hn2
          refine k _ H2 (k1.trans (kp_unblock hn k2)) okF ⟨D, rfl, k1.trk D hD, fun j hj => ?_, vacc, eD, hacc⟩
          exact nD ((ownS_block hn2).mpr hj)
    · cases q2
theorem de_lc {fi : FI} {g : FG} {t : FT} {f : FE} (hc : X.calm = true) (hN : X.N.Nodup) (hi : DI X R tg iter fi) (ok : BlkOk X.N X.env.scope scope own)
    (hg : ∀ (s : Shared) (H : Hp) (C : Addr) (cl : List (Str × Addr)) (fp : List Addr), PG (X.blk s H scope (compEnvC scope cl C X.env) fp) tg (tG (kw X) (own.map (·.2)) g))
    (ht : ∀ (s : Shared) (H : Hp) (C : Addr) (cl : List (Str × Addr)) (fp : List Addr), PTs (X.blk s H scope (compEnvC scope cl C X.env) fp) ifs (tT (kw X) R t))
    (he : ∀ (s : Shared) (H : Hp) (C : Addr) (cl : List (Str × Addr)) (fp : List Addr), PE (X.blk s H scope (compEnvC scope cl C X.env) fp) elt (tE (kw X) R f))
    (hs : ∀ x, foldedSetIterable iter X.env x = pure x := by intro _; rfl) : DE X R (.ListComp elt [⟨tg, iter, ifs, 0⟩] scope pos) (lcF (own.map (·.2)) fi g t f) :=
  pe_imp (pe_lc hc hN hi ok hg ht he hs) fun σ H Q hq => lc_red hq
/-- y = [..] on one line, y a local -/
theorem ds_setLc (i : Nat) {y : Str} {py spos : Pos} {fi : FI} {g : FG} {t : FT} {f : FE} (hc : X.calm = true) (hN : X.N.Nodup) (hi : DI X R tg iter fi) (ok : BlkOk X.N X.env.scope scope own)
    (hg : ∀ (s : Shared) (H : Hp) (C : Addr) (cl : List (Str × Addr)) (fp : List Addr), PG (X.blk s H scope (compEnvC scope cl C X.env) fp) tg (tG (kw X) (own.map (·.2)) g))
    (ht : ∀ (s : Shared) (H : Hp) (C : Addr) (cl : List (Str × Addr)) (fp : List Addr), PTs (X.blk s H scope (compEnvC scope cl C X.env) fp) ifs (tT (kw X) R t))
    (he : ∀ (s : Shared) (H : Hp) (C : Addr) (cl : List (Str × Addr)) (fp : List Addr), PE (X.blk s H scope (compEnvC scope cl C X.env) fp) elt (tE (kw X) R f))
    (hy : X.N[i]? = some y := by rfl) (hyl : X.env.scope.names.lookup y = some .local := by rfl) (hsw : swapsWith (.ListComp elt [⟨tg, iter, ifs, 0⟩] scope pos) (some (.Name y py)) spos.line X.env = pure true := by exact sw_true rfl rfl rfl (by decide +kernel))
    (hs : ∀ x, foldedSetIterable iter X.env x = pure x := by intro _; rfl) : DS X R (.Assign [.Name y py] (.ListComp elt [⟨tg, iter, ifs, 0⟩] scope pos) spos) (setF R i (lcF (own.map (·.2)) fi g t f)) :=
  ps_imp (ps_setLc hc hN hy hyl hsw hi ok hg ht he hs) fun D σ H h => by
    obtain ⟨H0, S, ρ, fl, ρ', hR, b, q, k⟩ := h
    simp only [setF, Option.bind_eq_some_iff] at q
    obtain ⟨⟨r, ρ1⟩, q1, ρ2, q2, q3⟩ := q
    cases q3
    subst hR
    refine tE_bd (te := tLc _ _ _ _ _) (fun _ _ _ z => lc_red z) b q1 fun v H' b' z o => ?_
    exact k _ H' (b'.put o b.trk q2) z
end
end DL

/-! DL9: what is walked: lists, tuples, texts, dicts, enumerate, zip, values, items. -/
namespace DL
open PySem PySem.Spec PyProof.Rows L2

def signs (x : Str) : List Str := x.cps.toList.map fun c => ⟨#[c]⟩
def keysT (ks : List Key) : D := .tup (ks.map keyD)
def nkD : NK → D
  | none => .non
  | some k => keyD k
/-- the items that a walk of d gives -/
def itemsD : D → Option (List D)
  | .lst ds => some ds
  | .tup ds => some ds
  | .str x => some ((signs x).map .str)
  | .dK kvs => some (kvs.map fun kv => keyD kv.1)
  | .dT kvs => some (kvs.map fun kv => keysT kv.1)
  | .dN kvs => some (kvs.map fun kv => nkD kv.1)
  | _ => none
def anyI (f : FE) : FI := fun ρ => (f ρ).bind fun p => match p.1 with
  | .dat d => (itemsD d).bind fun ds => some (ds, p.2)
  | _ => none
section
variable {K : KW} {H : Hp}
theorem dv_keyD (k : Key) : Dv K H (kV k) (keyD k) := by
  cases k with
  | inl i => exact .int i
  | inr x => exact .str x
theorem dvs_keyD : ∀ ks : List Key, Dvs K H (ks.map kV) (ks.map keyD)
  | [] => .nil
  | k :: r => .cons (dv_keyD k) (dvs_keyD r)
theorem dv_nkD (k : NK) : Dv K H (nkV k) (nkD k) := by
  cases k with
  | none => exact .non
  | some x => exact dv_keyD x
theorem dvs_nkD : ∀ ks : List NK, Dvs K H (ks.map nkV) (ks.map nkD)
  | [] => .nil
  | k :: r => .cons (dv_nkD k) (dvs_nkD r)
/-- the keys, None among them, one by one -/
def Itn (d : Addr) (o : Obj) (u : HO) (ks : List NK) : It :=
  ⟨fun i H => H d = some (.frz o u) ∧ i < ks.length, fun i H x H' => H' = H ∧ ∃ k, ks[i]? = some k ∧ x = nkV k, fun i H => H d = some (.frz o u) ∧ ks.length ≤ i⟩
theorem turn_nk {P : Program} {w : World} {KF : PySem.W.Frag} {tg : Expr} {d : Addr} {o : Obj} {u : HO} {es : Array DictEntry} {ep : Nat} {ks : List NK} (it : Addr) (hod : o.data = .dict es ep) (hsz : es.size = ks.length) (ent : ∀ (i : Nat) (k : NK), ks[i]? = some k → ∃ en : DictEntry, es[i]? = some en ∧ nkIs k en.key = true) :
    Turn P w KF tg (Itn d o u ks) [it] it (fun i h => h.IsKeyIter it d i ks.length ep) where
  mem := by simp
  obj := fun i h st b hb => by
    have e : b = it := by simpa using hb
    subst e
    obtain ⟨oi, e, c, dd⟩ := st
    exact ⟨oi, e, fun v z => by rw [dd] at z; cases z⟩
  keep := fun i h h' st k => st.at fun oi e => k it (by simp) oi e
  item := by
    intro X hP hw hK hc i pins s σ H E I hf st hg
    subst hP hw hK
    obtain ⟨hd, hi⟩ := hg
    obtain ⟨f0, f1, f2, f3, f4, f5⟩ := hf it (by simp)
    obtain ⟨hgd, _⟩ := I.hok _ _ hd
    obtain ⟨k, hk⟩ : ∃ k, ks[i]? = some k := ⟨ks[i], List.getElem?_eq_getElem hi⟩
    obtain ⟨en, hen, hkey⟩ := ent i k hk
    refine next_key_item st hgd hod hsz hen fun h' st' sb => ?_
    have I1 : Inv X pins σ H { s with heap := h' } := I.turned (t' := s.toks) (fun b ob hb e => (sb.2 b hb).trans e) f0 f1 f3 f4 f5
    obtain ⟨oi, e, c, dd⟩ := id st'
    exact ⟨en.key, rfl, go_of (s := { s with heap := h' }) e c dd (by decide) ⟨nkV k, H, I1, nk_rel hkey, ⟨rfl, k, hk, rfl⟩, st', fun b hb => (hf b hb).1⟩⟩
  done := by
    intro X hP hw hK hc i pins s σ H E I hf st hg
    subst hP hw hK
    obtain ⟨hd, hi⟩ := hg
    obtain ⟨f0, f1, f2, f3, f4, f5⟩ := hf it (by simp)
    obtain ⟨hgd, _⟩ := I.hok _ _ hd
    exact next_key_end (I.ok.hd hc) st hgd hod hsz hi fun h' eb => ⟨rfl, I.turned (t' := s.toks) (fun b ob hb e => eb b ob hb e) f0 f1 f3 f4 f5⟩
  self := fun A i s Q E st h => wpAny_pyIter_keyiter st h
theorem goes_nk {a : Addr} {o : Obj} {u : HO} (ks : List NK) (h : H a = some (.frz o u)) : GoesD K H (Itn a o u ks) (ks.map nkD) := fun H' z i => by
  have h' : H' a = some (.frz o u) := by rw [z a (by rw [h]; exact trivial), h]
  refine ⟨fun hi => ⟨h', by rw [List.length_map] at hi; exact hi⟩, fun d e1 => ?_⟩
  rw [List.getElem?_map, Option.map_eq_some_iff] at e1
  obtain ⟨k, e2, rfl⟩ := e1
  refine ⟨⟨h', (List.getElem?_eq_some_iff.mp e2).1⟩, fun x H'' y => ?_⟩
  obtain ⟨rfl, k', e4, rfl⟩ := y
  rw [e2] at e4; cases e4
  exact ⟨Same.refl _, dv_nkD _⟩
/-- the entries of a dict with None among its keys -/
theorem dn_ent {P : Program} {w : World} {o : Obj} {kv : List (NK × V)} (D : DicN P w o kv) : ∃ es ep, o.data = .dict es ep ∧ es.size = kv.length ∧ ∀ (i : Nat) (k : NK) (v : V), kv[i]? = some (k, v) → ∃ en : DictEntry, es[i]? = some en ∧ nkIs k en.key = true ∧ RelV v en.val := by
  obtain ⟨es, ep, vs, e1, e2, e3, e4, e5, e6⟩ := D.dat
  refine ⟨es, ep, e1, e2, fun i k v e => ?_⟩
  have hi : i < es.size := by rw [e2]; exact (List.getElem?_eq_some_iff.mp e).1
  have pg : ∀ {l : List (NK × V)} {m : List (NK × Value)}, Paired (fun (p : NK × V) (q : NK × Value) => p.1 = q.1 ∧ RelV p.2 q.2) l m → ∀ (i : Nat), l[i]? = some (k, v) → ∃ x, m[i]? = some (k, x) ∧ RelV v x := by
    intro l m r
    induction r with
    | nil => intro i e; simp at e
    | @cons p q ps qs h t ih =>
      intro i e
      cases i with
      | zero =>
        simp at e
        subst e
        obtain ⟨q1, q2⟩ := q
        obtain ⟨h1, h2⟩ := h
        cases h1
        exact ⟨q2, rfl, h2⟩
      | succ i =>
        obtain ⟨x, f1, f2⟩ := ih i (by simpa using e)
        exact ⟨x, by simpa using f1, f2⟩
  obtain ⟨x, f1, f2⟩ := pg e6 i e
  obtain ⟨g1, g2⟩ := e4.get? (e := es[i]) (by simp [hi]) f1
  exact ⟨es[i], Array.getElem?_eq_getElem hi, g1, by rw [g2]; exact f2⟩
theorem goes_str (x : Str) : GoesD K H (Its x) ((signs x).map .str) := fun H' z i => by
  have hl : ((signs x).map D.str).length = x.cps.size := by simp [signs]
  refine ⟨fun hi => (show x.cps.size ≤ i by omega), fun d e => ?_⟩
  unfold signs at e
  rw [List.map_map, List.getElem?_map, Option.map_eq_some_iff] at e
  obtain ⟨c, e1, rfl⟩ := e
  have hi : i < x.cps.size := by
    have := (List.getElem?_eq_some_iff.mp e1).1
    simpa using this
  have e2 : x.cps[i]? = some c := by simpa using e1
  refine ⟨hi, fun v H'' y => ?_⟩
  obtain ⟨rfl, c', e3, rfl⟩ := y
  rw [e2] at e3; cases e3
  exact ⟨Same.refl _, .str _⟩
theorem keys_at {κ : Type} {kv : List (κ × V)} {kvs : List (κ × D)} (e : kv.map (·.1) = kvs.map (·.1)) {i : Nat} {k : κ} {d : D} (h : kvs[i]? = some (k, d)) : ∃ v, kv[i]? = some (k, v) := by
  have h1 : (kvs.map (·.1))[i]? = some k := by rw [List.getElem?_map, h]; rfl
  rw [← e, List.getElem?_map, Option.map_eq_some_iff] at h1
  obtain ⟨⟨k', v⟩, h2, h3⟩ := h1
  cases h3
  exact ⟨v, h2⟩
theorem goes_keysK {a : Addr} {o : Obj} {kv : List (Key × V)} {kvs : List (Key × D)} (h : H a = some (.frz o (.dK kv))) (e : kv.map (·.1) = kvs.map (·.1)) : GoesD K H (Itk a o kv) (kvs.map fun kv => keyD kv.1) := fun H' z i => by
  have h' : H' a = some (.frz o (.dK kv)) := by rw [z a (by rw [h]; exact trivial), h]
  have hl : kv.length = kvs.length := by simpa using congrArg List.length e
  refine ⟨fun hi => ⟨h', by rw [List.length_map] at hi; omega⟩, fun d e1 => ?_⟩
  rw [List.getElem?_map, Option.map_eq_some_iff] at e1
  obtain ⟨⟨k, d'⟩, e2, rfl⟩ := e1
  obtain ⟨v, e3⟩ := keys_at e e2
  refine ⟨⟨h', (List.getElem?_eq_some_iff.mp e3).1⟩, fun x H'' y => ?_⟩
  obtain ⟨rfl, k', v', e4, rfl⟩ := y
  rw [e3] at e4; cases e4
  exact ⟨Same.refl _, dv_keyD _⟩
theorem goes_keysT {a : Addr} {o : Obj} {kv : List (List Key × V)} {kvs : List (List Key × D)} (h : H a = some (.frz o (.dT kv))) (e : kv.map (·.1) = kvs.map (·.1)) : GoesD K H (Itkt a o kv) (kvs.map fun kv => keysT kv.1) := fun H' z i => by
  have h' : H' a = some (.frz o (.dT kv)) := by rw [z a (by rw [h]; exact trivial), h]
  have hl : kv.length = kvs.length := by simpa using congrArg List.length e
  refine ⟨fun hi => ⟨h', by rw [List.length_map] at hi; omega⟩, fun d e1 => ?_⟩
  rw [List.getElem?_map, Option.map_eq_some_iff] at e1
  obtain ⟨⟨k, d'⟩, e2, rfl⟩ := e1
  obtain ⟨v, e3⟩ := keys_at e e2
  refine ⟨⟨h', (List.getElem?_eq_some_iff.mp e3).1⟩, fun x H'' y => ?_⟩
  obtain ⟨rfl, k', v', q, e4, rfl, e5⟩ := y
  rw [e3] at e4; cases e4
  exact ⟨Same.refl _, .tup e5 (dvs_keyD _)⟩
theorem goes_vals {a : Addr} {o : Obj} {kv : List (Key × V)} {kvs : List (Key × D)} (h : H a = some (.frz o (.dK kv))) (hd : Dvs K H (kv.map (·.2)) (kvs.map (·.2))) : GoesD K H (Itd a o kv) (kvs.map (·.2)) := fun H' z i => by
  have h' : H' a = some (.frz o (.dK kv)) := by rw [z a (by rw [h]; exact trivial), h]
  have hd' := hd.mono z
  refine ⟨fun hi => ⟨h', by have := hd.length; rw [List.length_map] at this; omega⟩, fun d e1 => ?_⟩
  obtain ⟨v, e2, hv⟩ := hd'.get e1
  rw [List.getElem?_map, Option.map_eq_some_iff] at e2
  obtain ⟨⟨k, v'⟩, e3, rfl⟩ := e2
  refine ⟨⟨h', (List.getElem?_eq_some_iff.mp e3).1⟩, fun x H'' y => ?_⟩
  obtain ⟨rfl, k', e4⟩ := y
  rw [e3] at e4; cases e4
  exact ⟨Same.refl _, hv⟩
theorem goes_items {a : Addr} {o : Obj} {kv : List (Key × V)} {kvs : List (Key × D)} (h : H a = some (.frz o (.dK kv))) (e : kv.map (·.1) = kvs.map (·.1)) (hd : Dvs K H (kv.map (·.2)) (kvs.map (·.2))) :
    GoesD K H (Iti a o kv) (kvs.map fun kv => .tup [keyD kv.1, kv.2]) := fun H' z i => by
  have h' : H' a = some (.frz o (.dK kv)) := by rw [z a (by rw [h]; exact trivial), h]
  have hd' := hd.mono z
  have hl : kv.length = kvs.length := by simpa using congrArg List.length e
  refine ⟨fun hi => ⟨h', by rw [List.length_map] at hi; omega⟩, fun d e1 => ?_⟩
  rw [List.getElem?_map, Option.map_eq_some_iff] at e1
  obtain ⟨⟨k, d'⟩, e2, rfl⟩ := e1
  obtain ⟨v, e3⟩ := keys_at e e2
  obtain ⟨v2, e4, hv⟩ := hd'.get (i := i) (d := d') (by rw [List.getElem?_map, e2]; rfl)
  rw [List.getElem?_map, e3] at e4
  cases e4
  refine ⟨⟨h', (List.getElem?_eq_some_iff.mp e3).1⟩, fun x H'' y => ?_⟩
  obtain ⟨T, k', v', e5, rfl, hT, rfl⟩ := y
  rw [e3] at e5; cases e5
  have sm := same_new (o := HO.tup [kV k, v]) hT
  exact ⟨sm, .tup upd_same (.cons (dv_keyD k) (.cons (hv.mono (Fz.of_same sm)) .nil))⟩
theorem goes_enum {a : Addr} {vs : List V} {ds : List D} (h : FzL H a vs) (hd : Dvs K H vs ds) : GoesD K H (Ite K.K a) (ds.mapIdx fun i d => .tup [.int (i : Nat), d]) := fun H' z i => by
  have h' := h.mono z
  have hd' := hd.mono z
  refine ⟨fun hi => ⟨vs, .inl h'.rd, by rw [hd.length]; simpa using hi⟩, fun d e => ?_⟩
  rw [List.getElem?_mapIdx, Option.map_eq_some_iff] at e
  obtain ⟨d0, e0, rfl⟩ := e
  obtain ⟨v, e1, e2⟩ := hd'.get e0
  refine ⟨⟨vs, v, .inl h'.rd, e1⟩, fun x H'' y => ?_⟩
  obtain ⟨T, x', rfl, hT, rfl, y⟩ := y
  have := y vs (.inl h'.rd)
  rw [e1] at this
  cases this
  have sm := same_new (o := HO.tup [.int (i : Nat), v]) hT
  exact ⟨sm, .tup upd_same (.cons (.int _) (.cons (e2.mono (Fz.of_same sm)) .nil))⟩
theorem goes_zip {a b : Addr} {vs ws : List V} {ds es : List D} (h : FzL H a vs) (hd : Dvs K H vs ds) (h2 : FzL H b ws) (hd2 : Dvs K H ws es) : GoesD K H (Itz K.K a b) ((ds.zip es).map fun p => .tup [p.1, p.2]) := fun H' z i => by
  have h' := h.mono z
  have hd' := hd.mono z
  have h2' := h2.mono z
  have hd2' := hd2.mono z
  refine ⟨fun hi => ⟨vs, ws, .inl h'.rd, .inl h2'.rd, by rw [hd.length, hd2.length]; simp at hi; omega⟩, fun d e => ?_⟩
  rw [List.getElem?_map, Option.map_eq_some_iff] at e
  obtain ⟨⟨d0, d1⟩, e0, rfl⟩ := e
  obtain ⟨e3, e4⟩ := List.getElem?_zip_eq_some.mp e0
  obtain ⟨v, e1, e2⟩ := hd'.get e3
  obtain ⟨w, f1, f2⟩ := hd2'.get e4
  refine ⟨⟨vs, ws, v, w, .inl h'.rd, .inl h2'.rd, e1, f1⟩, fun x H'' y => ?_⟩
  obtain ⟨T, x', y', rfl, hT, rfl, y1, y2⟩ := y
  have t1 := y1 vs (.inl h'.rd)
  have t2 := y2 ws (.inl h2'.rd)
  rw [e1] at t1
  rw [f1] at t2
  cases t1
  cases t2
  have sm := same_new (o := HO.tup [v, w]) hT
  exact ⟨sm, .tup upd_same (.cons (e2.mono (Fz.of_same sm)) (.cons (f2.mono (Fz.of_same sm)) .nil))⟩
end
def valsI (f : FE) : FI := fun ρ => (f ρ).bind fun p => match p.1 with
  | .dat (.dK kvs) => some (kvs.map (·.2), p.2)
  | _ => none
def itmsI (f : FE) : FI := fun ρ => (f ρ).bind fun p => match p.1 with
  | .dat (.dK kvs) => some (kvs.map fun kv => .tup [keyD kv.1, kv.2], p.2)
  | _ => none
def enumI (g : FA) : FI := fun ρ => (g ρ).bind fun p => match p.1 with
  | [.dat (.lst ds)] => some (ds.mapIdx fun i d => .tup [.int (i : Nat), d], p.2)
  | _ => none
def zipI (g : FA) : FI := fun ρ => (g ρ).bind fun p => match p.1 with
  | [.dat (.lst ds), .dat (.lst es)] => some ((ds.zip es).map fun p => .tup [p.1, p.2], p.2)
  | _ => none
section
variable {X : Cx} {R : List Nat} {tg e : Expr} {es : List Expr} {fe : FE}
theorem di_any (he : DE X R e fe) : DI X R tg e (anyI fe) := ⟨fun pins s σ H Q I hq => by
  obtain ⟨ρ, ds, ρ', ok, q, k⟩ := hq
  simp only [anyI, Option.bind_eq_some_iff] at q
  obtain ⟨⟨r, ρ1⟩, q1, q2⟩ := q
  split at q2
  · rename_i d er
    obtain rfl : r = .dat d := er
    simp only [Option.bind_eq_some_iff] at q2
    obtain ⟨ds', q3, q4⟩ := q2
    cases q4
    cases d with
    | lst xs =>
      cases q3
      exact (di_list he).run pins s σ H Q I ⟨ρ, ds, ρ', ok, by simp only [seqI, q1]; rfl, k⟩
    | tup xs =>
      cases q3
      exact (di_tup he).run pins s σ H Q I ⟨ρ, ds, ρ', ok, by simp only [tupI, q1]; rfl, k⟩
    | str x =>
      cases q3
      refine (pi_str he).run pins s σ H Q I ⟨ρ, _, ρ', ok, q1, fun v H1 k1 ok1 o1 => ?_⟩
      cases (show Dv (kw X) H1 v (.str x) from o1)
      exact ⟨x, rfl, k _ H1 k1 ok1 (goes_str x)⟩
    | dK kvs =>
      cases q3
      refine (pi_keys he).run pins s σ H Q I ⟨ρ, _, ρ', ok, q1, fun v H1 k1 ok1 o1 => ?_⟩
      cases (show Dv (kw X) H1 v (.dK kvs) from o1) with
      | dK h1 h2 h3 => exact ⟨_, _, rfl, .inl ⟨_, h1, k _ H1 k1 ok1 (goes_keysK h1 h2)⟩⟩
    | dT kvs =>
      cases q3
      refine (pi_keys he).run pins s σ H Q I ⟨ρ, _, ρ', ok, q1, fun v H1 k1 ok1 o1 => ?_⟩
      cases (show Dv (kw X) H1 v (.dT kvs) from o1) with
      | dT h1 h2 h3 => exact ⟨_, _, rfl, .inr ⟨_, h1, k _ H1 k1 ok1 (goes_keysT h1 h2)⟩⟩
    | non => cases q3
    | bl b => cases q3
    | int b => cases q3
    | dN kvs =>
      cases q3
      refine thn (tE_run he I ok q1) fun u s1 ⟨x, H1, I1, r1, k1, ok1, o1⟩ => ?_
      cases (show Dv (kw X) H1 x (.dN kvs) from o1) with
      | dN h1 h2 h3 h4 h5 =>
        rename_i kv
        cases r1
        obtain ⟨g1, _⟩ := I1.hok _ _ h1
        obtain ⟨es, ep, e1, e2, ent⟩ := dn_ent h2
        have g := goes_nk (K := kw X) (kv.map (·.1)) h1
        rw [h4] at g
        rw [show (kvs.map fun kv => nkD kv.1) = (kvs.map (·.1)).map nkD by rw [List.map_map]; rfl] at k
        have l4 : kv.length = kvs.length := by simpa using congrArg List.length h4
        refine iter_keys h3 g1 h2.ex e1 (pi_one (tk := s1.toks) I1 _ (turn_nk _ e1 (ks := kvs.map (·.1)) (by rw [List.length_map, e2, l4]) fun i k' ek => ?_) ⟨_, Heap.get?_push_size _ rfl, rfl, ?_⟩ (k _ H1 k1 ok1 g))
        · rw [← h4, List.getElem?_map, Option.map_eq_some_iff] at ek
          obtain ⟨⟨k2, v2⟩, ek, rfl⟩ := ek
          obtain ⟨en, q1, q2, q3⟩ := ent i k2 v2 ek
          exact ⟨en, q1, q2⟩
        · rw [List.length_map, ← l4, ← e2] <;> rfl
    | sS b => cases q3
    | scr b => cases q3
  · cases q2⟩
theorem di_vals {apos cpos : Pos} (he : DE X R e fe) (hbase : attributeBase e "values" X.env (eval e X.env) = eval e X.env := by rfl) (hline : (apos.endLine == cpos.line) = true := by rfl) : DI X R tg (.Call (.Attribute e "values" apos) [] [] cpos) (valsI fe) :=
  pi_imp (pi_values he hbase hline) fun σ H Q hq => by
    obtain ⟨ρ, ds, ρ', ok, q, k⟩ := hq
    simp only [valsI, Option.bind_eq_some_iff] at q
    obtain ⟨⟨r, ρ1⟩, q1, q2⟩ := q
    split at q2
    · rename_i kvs er
      obtain rfl : r = .dat (.dK kvs) := er
      cases q2
      refine ⟨ρ, _, ρ1, ok, q1, fun v H1 k1 ok1 o1 => ?_⟩
      cases (show Dv (kw X) H1 v (.dK kvs) from o1) with
      | dK h1 h2 h3 => exact ⟨_, _, _, rfl, h1, k _ H1 k1 ok1 (goes_vals h1 h3)⟩
    · cases q2
theorem di_items {elts : List Expr} {kk : Nat} {tpos apos cpos : Pos} (he : DE X R e fe) (hbase : attributeBase e "items" X.env (eval e X.env) = eval e X.env := by rfl) (hline : (apos.endLine == cpos.line) = true := by rfl) :
    DI X R (.Tuple elts kk tpos) (.Call (.Attribute e "items" apos) [] [] cpos) (itmsI fe) :=
  pi_imp (pi_items he hbase hline) fun σ H Q hq => by
    obtain ⟨ρ, ds, ρ', ok, q, k⟩ := hq
    simp only [itmsI, Option.bind_eq_some_iff] at q
    obtain ⟨⟨r, ρ1⟩, q1, q2⟩ := q
    split at q2
    · rename_i kvs er
      obtain rfl : r = .dat (.dK kvs) := er
      cases q2
      refine ⟨ρ, _, ρ1, ok, q1, fun v H1 k1 ok1 o1 => ?_⟩
      cases (show Dv (kw X) H1 v (.dK kvs) from o1) with
      | dK h1 h2 h3 => exact ⟨_, _, _, rfl, h1, k _ H1 k1 ok1 (goes_items h1 h2 h3)⟩
    · cases q2
theorem di_enum {elts : List Expr} {kk : Nat} {g : FA} {p pos tpos : Pos} (ha : DA X R [e] g) (hg : Gl X "enumerate") (hm : X.mg "enumerate" = none) (hs : starEach [e] X.env = [(false, eval e X.env)] := by rfl) :
    DI X R (.Tuple elts kk tpos) (.Call (.Name "enumerate" p) [e] [] pos) (enumI g) :=
  pi_imp (pi_enum hg hm ha hs) fun σ H Q hq => by
    obtain ⟨ρ, ds, ρ', ok, q, k⟩ := hq
    simp only [enumI, Option.bind_eq_some_iff] at q
    obtain ⟨⟨r, ρ1⟩, q1, q2⟩ := q
    split at q2
    · rename_i xs er
      obtain rfl : r = [.dat (.lst xs)] := er
      cases q2
      refine ⟨ρ, _, ρ1, ok, q1, fun v H1 k1 ok1 o1 => ?_⟩
      cases o1 with
      | cons o1 t =>
        cases t
        rename_i v
        cases (show Dv (kw X) H1 v (.lst xs) from o1) with
        | lst h1 h2 => exact ⟨_, _, rfl, .inl h1.rd, k _ H1 k1 ok1 (goes_enum h1 h2)⟩
    · cases q2
theorem di_zip {e2 : Expr} {elts : List Expr} {kk : Nat} {g : FA} {p pos tpos : Pos} (ha : DA X R [e, e2] g) (hg : Gl X "zip") (hm : X.mg "zip" = none)
    (hs : starEach [e, e2] X.env = (false, eval e X.env) :: starEach [e2] X.env := by rfl) (hpl : (backTo pos (starEach [e2] X.env)).any (·.1) = false := by rfl) :
    DI X R (.Tuple elts kk tpos) (.Call (.Name "zip" p) [e, e2] [] pos) (zipI g) :=
  pi_imp (pi_zip hg hm ha hs hpl) fun σ H Q hq => by
    obtain ⟨ρ, ds, ρ', ok, q, k⟩ := hq
    simp only [zipI, Option.bind_eq_some_iff] at q
    obtain ⟨⟨r, ρ1⟩, q1, q2⟩ := q
    split at q2
    · rename_i xs ys er
      obtain rfl : r = [.dat (.lst xs), .dat (.lst ys)] := er
      cases q2
      refine ⟨ρ, _, ρ1, ok, q1, fun v H1 k1 ok1 o1 => ?_⟩
      cases o1 with
      | cons o1 t =>
        cases t with
        | cons o2 t =>
          cases t
          rename_i v w
          cases (show Dv (kw X) H1 v (.lst xs) from o1) with
          | lst h1 h2 =>
            cases (show Dv (kw X) H1 w (.lst ys) from o2) with
            | lst h3 h4 => exact ⟨_, _, _, _, rfl, .inl h1.rd, .inl h3.rd, k _ H1 k1 ok1 (goes_zip h1 h2 h3 h4)⟩
    · cases q2
end
end DL

/-! DL10: sets of texts: set(x), {.. for ..}, len, sorted. -/
namespace DL
open L2 PySem PySem.Spec PyProof.Rows

/-- the next text is met -/
def addS (l : List Str) (k : Str) : List Str := if k ∈ l then l else l ++ [k]
theorem addS_nodup {l : List Str} {k : Str} (h : l.Nodup) : (addS l k).Nodup := by
  unfold addS
  split
  · exact h
  · rename_i hk
    exact List.nodup_append.mpr ⟨h, by simp, fun a ha b hb => by
      rw [List.mem_singleton] at hb
      rintro rfl
      exact hk (hb ▸ ha)⟩
theorem addS_len (l : List Str) (k : Str) : (addS l k).length ≤ l.length + 1 := by
  unfold addS
  split <;> simp
section
variable {P : Program} {w : World} {A : Around} {E : Value → Shared → Prop} {s : Shared} {h h' : Heap} {a : Addr} {l : List Str}
theorem is_sk {k k' : Str} {u : Tok} : (PySem.strKind P w).is k (.str k' u) = true ↔ k' = k := by
  show Value.isStrOf k (.str k' u) = true ↔ _
  unfold Value.isStrOf
  exact beq_iff_eq
theorem SetD.elems {es : Array (Int × Value)} {t : SetTable} (R : SetD w es t l) : ElemsOf (PySem.strKind P w) es.toList := fun e he => by
  obtain ⟨k, u, h1, h2⟩ := R.good e he
  exact ⟨⟨k, by rw [h1]; exact is_sk.mpr rfl, h2⟩, by rw [h1]; rfl⟩
theorem SetD.is {es : Array (Int × Value)} {t : SetTable} (R : SetD w es t l) {e : Int × Value} (he : e ∈ es.toList) (k : Str) : (PySem.strKind P w).is k e.2 = true ↔ keyS e = k := by
  obtain ⟨k0, u, h1, _⟩ := R.good e he
  unfold keyS
  rw [h1]
  exact is_sk
theorem TxSet.at {h h' : Heap} (R : TxSet w h a l) (k : ∀ o, h.get? a = some o → h'.get? a = some o) : TxSet w h' a l := by
  obtain ⟨o, es, ep, t, ho, r⟩ := R
  exact ⟨o, es, ep, t, k o ho, r⟩
theorem put_at {o : Obj} {es es' : Array (Int × Value)} {ep : Nat} {t t' : SetTable} (ho : h.get? a = some o) (hd : o.data = .set es ep t) : (h.update a (Obj.putSet es' t')).get? a = some { o with data := .set es' (ep + 1) t' } := by
  have e := putSet_of es' t' hd
  have q := Heap.get?_update_self (Obj.putSet es' t') ho (by rw [e]; rfl)
  rw [e] at q
  exact q
theorem txs_tail {g : Bool → Sem Unit} (hg : ∀ (b : Bool) (s1 : Shared) (Q' : Unit → Shared → Prop), Q' () s1 → wpAny (model P w) A (g b) Q' E s1) {o : Obj} {es es1 : Array (Int × Value)} {ep : Nat} {t t2 : SetTable}
    (ho : s.heap.get? a = some o) (hex : o.ExactSet) (hd : o.data = .set es ep t) (R1 : SetD w es1 t2 l) {wd : Bool} {R : Option Bool → Shared → Prop} (hR : ∀ h', Heap.SameBut a s.heap h' → TxSet w h' a l → R (some true) { s with heap := h' }) :
    wpAny (model P w) A (storeSet a es1 t2 >>= fun _ => if (!wd && t2.tooFull) = true then g (relayAll t2 es1 (SetTable.grown es1.size)).2.2 >>= fun _ =>
      storeSet a (relayAll t2 es1 (SetTable.grown es1.size)).1 (relayAll t2 es1 (SetTable.grown es1.size)).2.1 >>= fun _ => pure (some true) else pure (some true)) R E s := by
  refine wpAny_bind (wpAny_storeSet_of ho hd ?_ (fits_of_scanBound R1.few))
  have ho1 := put_at (es' := es1) (t' := t2) ho hd
  have sb1 := Heap.SameBut.update s.heap a (Obj.putSet es1 t2)
  by_cases c : (!wd && t2.tooFull) = true
  · rw [if_pos c]
    have pm := relayAll_perm t2 es1 (SetTable.grown es1.size)
    have f3 := relayAll_fits t2 es1 (SetTable.grown es1.size)
    have r3 := relayAll_ris t2 es1 (SetTable.grown es1.size)
    have l3 := relayAll_led t2 es1 (SetTable.grown es1.size)
    revert pm f3 r3 l3
    generalize relayAll t2 es1 (SetTable.grown es1.size) = Z
    obtain ⟨es2, t3, gv⟩ := Z
    intro pm f3 r3 l3
    have sz : es2.size = es1.size := by rw [← Array.length_toList, pm.length_eq, Array.length_toList]
    have few : es2.size < scanBound := by rw [sz]; exact R1.few
    refine wpAny_bind (hg _ _ _ (wpAny_bind (wpAny_storeSet_of ho1 rfl (wpAny_pure (hR _ (sb1.trans (Heap.SameBut.update _ a _)) ?_)) (fits_of_scanBound few))))
    exact ⟨_, es2, _, t3, put_at ho1 rfl, hex, rfl, fun e he => R1.good e (pm.mem_iff.mp he), R1.nd, (pm.map keyS).trans R1.pm, few, f3, r3, R1.led.imp id fun z => by rw [l3]; exact z⟩
  · rw [if_neg c]
    exact wpAny_pure (hR _ sb1 ⟨_, es1, _, t2, ho1, hex, rfl, R1⟩)
/-- a text is put into the set -/
theorem txs_add {k : Str} {u : Tok} {Q : Bool → Shared → Prop} (R : TxSet w s.heap a l) (room : l.length + 1 < scanBound) (hQ : ∀ h' b, Heap.SameBut a s.heap h' → TxSet w h' a (addS l k) → Q b { s with heap := h' }) :
    wpAny (model P w) A (setAddHashed a (.str k u) ((PySem.strKind P w).hash k)) Q E s := by
  obtain ⟨o, es, ep, t, ho, hex, hd, D⟩ := R
  have hkey : (PySem.strKind P w).is k (.str k u) = true := is_sk.mpr rfl
  have hsc : (Value.str k u).scannable = true := rfl
  have hel : ElemsOf (PySem.strKind P w) es.toList := D.elems
  unfold setAddHashed setAddHashedIn
  refine wpAny_holding (wpAny_bind (wpAny_setState_of ho hd D.fit ?_))
  dsimp only
  rw [byScan_of hsc D.few hel]
  simp only [↓reduceIte]
  unfold setAddByScan
  refine wpAny_bind (wpAny_bind (wpAny_rule (wpAny_bind (wpAny_setScan_of hkey ho hd D.fit hel ?_))))
  have mem : ∀ e ∈ es.toList, keyS e ∈ l := fun e he => D.pm.mem_iff.mp (List.mem_map.mpr ⟨e, he, rfl⟩)
  cases hfi : List.findIdx? (fun e => (PySem.strKind P w).is k e.2) es.toList with
  | some j =>
    obtain ⟨hj, pj, _⟩ := List.findIdx?_eq_some_iff_getElem.mp hfi
    have hm : es.toList[j] ∈ es.toList := List.getElem_mem hj
    have hk : k ∈ l := by
      rw [← (D.is hm k).mp pj]
      exact mem _ hm
    refine wpAny_pure (wpAny_pure (hQ s.heap _ (Heap.SameBut.refl a s.heap) ?_))
    unfold addS
    rw [if_pos hk]
    exact ⟨o, es, ep, t, ho, hex, hd, D⟩
  | none =>
    have hk : k ∉ l := fun z => by
      obtain ⟨e, he, q⟩ := List.mem_map.mp (D.pm.mem_iff.mpr z)
      have c := List.findIdx?_eq_none_iff.mp hfi e he
      rw [(D.is he k).mpr q] at c
      cases c
    have gw : ∀ (b : Bool) {s1 : Shared} {Q' : Unit → Shared → Prop}, Q' () s1 → wpAny (model P w) A (match b with | true => rule "set.scan.the-table-gave-way" | false => pure ()) Q' E s1 := fun b s1 Q' q => by
      cases b
      · exact wpAny_pure q
      · exact wpAny_rule q
    have pm := layNew_perm t es ((PySem.strKind P w).hash k) (.str k u)
    have f1 := layNew_fits t es ((PySem.strKind P w).hash k) (.str k u)
    have r1 := layNew_ris t es ((PySem.strKind P w).hash k) (.str k u) D.ris
    have l1 := layNew_led t es ((PySem.strKind P w).hash k) (.str k u)
    dsimp only
    revert pm f1 r1 l1
    generalize layNew t es ((PySem.strKind P w).hash k) (.str k u) = Z
    obtain ⟨es1, t1, wd, gave⟩ := Z
    intro pm f1 r1 l1
    dsimp only at pm f1 r1 l1 ⊢
    rw [Array.toList_push] at pm
    have pc : es1.toList.Perm (((PySem.strKind P w).hash k, Value.str k u) :: es.toList) := pm.trans (List.perm_append_singleton _ _)
    have pk : (es1.toList.map keyS).Perm (l ++ [k]) := (pc.map keyS).trans (((List.Perm.cons k D.pm)).trans (List.perm_append_singleton _ _).symm)
    have ea : addS l k = l ++ [k] := by
      unfold addS
      rw [if_neg hk]
    have sz : es1.size = l.length + 1 := by
      have := pk.length_eq
      simpa using this
    have D1 : ∀ t' : SetTable, t'.fits es1.size = true → Ris t'.place.toList → t'.led = t1.led → SetD w es1 t' (addS l k) := fun t' h1 h2 h3 => ⟨fun e he => by
      rcases List.mem_cons.mp (pc.mem_iff.mp he) with z | z
      · rw [z]; exact ⟨k, u, rfl, rfl⟩
      · exact D.good e z, addS_nodup D.nd, by rw [ea]; exact pk, by rw [sz]; exact room, h1, h2, D.led.imp id fun z => by rw [h3, l1]; exact z⟩
    refine wpAny_bind (gw _ ?_)
    by_cases hpl : t1.plain = true
    · rw [if_pos hpl]
      refine wpAny_bind ?_
      rw [hashByValue_scannable 8 hsc]
      refine wpAny_pure ?_
      refine txs_tail (fun b s1 Q' q => ?_) ho hex hd (D1 _ ?_ ?_ ?_) fun h' sb r => wpAny_pure (hQ h' _ sb r)
      · exact gw b q
      · exact SetTable.fits_plain_off f1
      · exact r1
      · rfl
    · rw [if_neg hpl]
      refine wpAny_bind (wpAny_pure ?_)
      simp only [↓reduceIte]
      exact txs_tail (fun b s1 Q' q => gw b q) ho hex hd (D1 t1 f1 r1 rfl) fun h' sb r => wpAny_pure (hQ h' _ sb r)
end

/-! ### set(x) -/
/-- a source of texts: it is walked, and gives ys -/
structure Src (P : Program) (w : World) (v : Value) (T : String) (ys : List Str) (old : List Addr) (OK : Heap → Prop) : Prop where
  ty : ∀ s : Shared, OK s.heap → s.TypeIs v T
  s1 : isSubtype (.type T) (.type "set") = pure false
  s2 : isSubtype (.type T) (.type "frozenset") = pure false
  s3 : (Value.type T == Value.type "dict") = false
  keep : ∀ h h' : Heap, OK h → (∀ b o, h.get? b = some o → h'.get? b = some o) → OK h'
  low : ∀ h : Heap, OK h → ∀ b ∈ old, b < h.objs.size
  it : ∀ (A : Around) (E : Value → Shared → Prop) (s : Shared) (Q : Value → Shared → Prop), OK s.heap →
    (∀ (oI : Obj) (fp : List Addr) (Pv : Nat → Value → Prop) (St : Nat → Heap → Prop), (∀ b ∈ fp, b = s.heap.objs.size ∨ b ∈ old) → (∀ A' : Around, A'.handled = none → Walks P w A' s.heap.objs.size fp [s.heap.objs.size] ys.length Pv St) →
      (∀ i u, Pv i u → ∃ k t, ys[i]? = some k ∧ u = .str k t) → St 0 (s.heap.push oI) → Q (.ref s.heap.objs.size) { s with heap := s.heap.push oI }) → wpAny (model P w) A (pyIter v) Q E s
def dedupS (ys : List Str) : List Str := ys.foldl addS []
theorem dedup_take {ys : List Str} {i : Nat} {k : Str} (h : ys[i]? = some k) : dedupS (ys.take (i + 1)) = addS (dedupS (ys.take i)) k := by
  unfold dedupS
  rw [List.take_add_one, h, List.foldl_append]
  rfl
theorem dedup_len : ∀ (ys l : List Str), (ys.foldl addS l).length ≤ l.length + ys.length
  | [], l => by simp
  | y :: r, l => by
    have h1 := dedup_len r (addS l y)
    have h2 := addS_len l y
    simp only [List.foldl_cons, List.length_cons]
    omega
section
variable {P : Program} {w : World} {A : Around} {E : Value → Shared → Prop} {s : Shared}
theorem txs_loop {I : Addr} {fp wr : List Addr} {G : Array GenState → Array GenState → Prop} {Pv : Nat → Value → Prop} {St : Nat → Shared → Prop} {R : Result → Shared → Prop} {ys : List Str}
    (W : WalksS P w A.in1 I fp wr G ys.length Pv St) (S : Addr) (hS : S ∉ fp) (room : ys.length + 1 < scanBound) (hval : ∀ i u, Pv i u → ∃ k t, ys[i]? = some k ∧ u = .str k t) :
    ∀ (m i : Nat) (s : Shared), ys.length - i = m → i ≤ ys.length → St i s → TxSet w s.heap S (dedupS (ys.take i)) → (∀ s', Moved (S :: wr) G s s' → TxSet w s'.heap S (dedupS ys) → R (.ok (.ret .none)) s') →
      codeAny (model P w) A (.builtin "set.update.loop" ⟨[.ref S, .ref I], []⟩) R s := by
  have nw : S ∉ wr := fun z => hS (W.sub _ z)
  have sub : ∀ b ∈ wr, b ∈ S :: wr := fun b hb => List.mem_cons_of_mem _ hb
  intro m
  induction m with
  | zero =>
    intro i s hm hi st hT hR
    obtain rfl : i = ys.length := by omega
    refine codeAny_builtin PyProof.Rows.F.entry_set_update_loop ?_
    rw [Around.under_plainId PyProof.Rows.F.plain_set_update_loop _]
    show wpAny _ A.in1 (pyNext (.ref I) >>= _) _ _ s
    rw [List.take_length] at hT
    exact wpAny_bind (W.done s _ _ st fun s' mv => wpAny_pure (hR s' (mv.mono sub) (hT.at fun o e => mv.heap S o nw e)))
  | succ m ih =>
    intro i s hm hi st hT hR
    have lt : i < ys.length := by omega
    refine codeAny_builtin PyProof.Rows.F.entry_set_update_loop ?_
    rw [Around.under_plainId PyProof.Rows.F.plain_set_update_loop _]
    show wpAny _ A.in1 (pyNext (.ref I) >>= _) _ _ s
    refine wpAny_bind (W.item i s _ _ lt st fun u s' hP st' mv => ?_)
    obtain ⟨k, t, hk, rfl⟩ := hval i u hP
    have T' : TxSet w s'.heap S (dedupS (ys.take i)) := hT.at fun o e => mv.heap S o nw e
    have small : (dedupS (ys.take i)).length + 1 < scanBound := by
      have h1 := dedup_len (ys.take i) []
      have h2 : (ys.take i).length ≤ ys.length := by rw [List.length_take]; omega
      unfold dedupS
      simp only [List.length_nil] at h1
      omega
    show wpAny _ A.in1 (holding [Value.str k t] (setAdd S (.str k t)) >>= _) _ _ s'
    refine wpAny_bind (wpAny_holding ?_)
    unfold setAdd
    refine wpAny_holding (wpAny_bind ((PySem.strKind P w).pyHash (is_sk.mpr rfl) ?_))
    refine txs_add (s := { s' with toks := s'.toks + 1 }) T' small fun h' b sb T2 => ?_
    rw [← dedup_take hk] at T2
    refine wpAny_pure ⟨plainId_quiet PyProof.Rows.F.plain_set_update_loop _, ih (i + 1) _ (by omega) lt (W.frame _ s' _ _ st' (Nat.le_succ _) fun b hb o e => ?_) T2 fun s2 mv2 T3 => ?_⟩
    · rw [sb.2 b fun z : b = S => hS (z ▸ hb)]
      exact e
    · refine hR s2 (Moved.trans W.gtrans ((mv.mono sub).then_heap (Nat.le_succ _) fun b o hb e => ?_) mv2) T3
      rw [sb.2 b fun z : b = S => hb (z ▸ List.mem_cons_self)]
      exact e
theorem txs_new {h : Heap} {a : Addr} (ho : h.get? a = some { cls := .type "set", dict := none, data := .set #[] 0 (.fresh 0 0 (!w.params.followText "set-order")) }) : TxSet w h a [] := by
  refine ⟨_, #[], 0, _, ho, ⟨rfl, rfl, rfl⟩, rfl, fun e he => by simp at he, List.nodup_nil, by simp, by decide, by rfl, List.Pairwise.nil, ?_⟩
  show _ ∨ (!w.params.followText "set-order") = true
  cases w.params.followText "set-order"
  · exact .inr rfl
  · exact .inl rfl
theorem up_from {v : Value} {T : String} {ys : List Str} {old : List Addr} {OK : Heap → Prop} {id : String} {S : Addr} {Q : Unit → Shared → Prop} (src : Src P w v T ys old OK) (hh : A.handled = none) (ok : OK s.heap) (hT : TxSet w s.heap S []) (hS : S ∉ old) (room : ys.length + 1 < scanBound)
    (hQ : ∀ h' tk, TxSet w h' S (dedupS ys) → (∀ b o, b ≠ S → s.heap.get? b = some o → h'.get? b = some o) → Q () { s with heap := h', toks := tk }) : wpAny (model P w) A (Builtin.Frozenset.updateFrom id S v) Q E s := by
  unfold Builtin.Frozenset.updateFrom
  have q1 : ∀ {Q' : Bool → Shared → Prop}, Q' false s → wpAny (model P w) A (Builtin.Frozenset.isAnySet v) Q' E s := fun {Q'} q => by
    unfold Builtin.Frozenset.isAnySet orM
    refine wpAny_bind (wpAny_isInstance (src.ty s ok) src.s1 ?_)
    show wpAny _ _ (isInstance v (.type "frozenset")) _ _ s
    exact wpAny_isInstance (src.ty s ok) src.s2 q
  refine wpAny_bind (q1 ?_)
  simp only [Bool.false_eq_true, if_false]
  refine wpAny_bind (wpAny_typeOf (src.ty s ok) ?_)
  rw [src.s3]
  simp only [Bool.false_eq_true, if_false]
  refine wpAny_bind (src.it A E s _ ok fun oI fp Pv St hfp W hval st => ?_)
  have ⟨oS, _, _, _, hoS, _⟩ := hT
  have ltS : S < s.heap.objs.size := Heap.lt_size hoS
  have hSf : S ∉ fp := fun z => by
    rcases hfp S z with e | e
    · exact absurd ltS (by rw [e]; exact Nat.lt_irrefl _)
    · exact hS e
  have W1 := W A.in1 (by simp [hh])
  refine wpAny_bind (wpAny_runValue (txs_loop (A := A) W1.toS S hSf room hval ys.length 0 { s with heap := s.heap.push oI } (by omega) (Nat.zero_le _) st (by
    rw [List.take_zero]
    exact hT.at fun o e => Heap.get?_push_of_some _ e) fun s' mv T3 => ?_))
  rw [Moved.eq_with mv]
  refine wpAny_pure (hQ _ _ T3 fun b o hb e => mv.heap b o (fun z => ?_) (Heap.get?_push_of_some _ e))
  rcases List.mem_cons.mp z with z | z
  · exact hb z
  · exact absurd (Heap.lt_size e) (by rw [List.mem_singleton.mp z]; exact Nat.lt_irrefl _)
set_option maxHeartbeats 8000000 in
/-- set(v) -/
theorem call_set_src {v : Value} {T : String} {ys : List Str} {old : List Addr} {OK : Heap → Prop} {Q : Value → Shared → Prop} (src : Src P w v T ys old OK) (hh : A.handled = none) (ok : OK s.heap) (room : ys.length + 1 < scanBound)
    (hQ : ∀ h' tk, TxSet w h' s.heap.objs.size (dedupS ys) → (∀ b o, s.heap.get? b = some o → h'.get? b = some o) → Q (.ref s.heap.objs.size) { s with heap := h', toks := tk }) : wpAny (model P w) A (call (.type "set") [v]) Q E s := by
  obtain ⟨c, tl, hmro⟩ := PySem.F.called_set.mro
  have hmade := PySem.F.called_set.made
  have hsub := PySem.F.called_set.sub
  refine wpAny_call (codeAny_of_tree ?_)
  show wpAny _ _ (callAny (.type "set") _) _ _ _
  refine wpAny_pure ⟨Code.quiet_builtin _ (by decide +kernel), codeAny_builtin PySem.F.entry_type_call ?_⟩
  rw [Around.under_plain (weight_type_call_type "set" [v] []) rfl]
  have h1 := PySem.F.called_set.notType
  have h2 := PySem.F.called_set.canCreate
  have hct := PySem.F.typeCall_set_1 v
  repeat (any_goals (first | assumption | wp_step))
  refine codeAny_mono (code_set_led1 v (E := E) (Q₁ := fun obj s1 => obj = .ref s.heap.objs.size ∧ s1 = { s with heap := s.heap.push { cls := .type "set", dict := none, data := .set #[] 0 (.fresh 0 0 (!w.params.followText "set-order")) } }) ⟨rfl, rfl⟩) fun r s1 hr => ?_
  cases r with
  | error e => exact hr
  | ok fl =>
    cases fl with
    | ret obj =>
      obtain ⟨rfl, rfl⟩ := hr
      generalize hS : ({ cls := .type "set", dict := none, data := .set #[] 0 (.fresh 0 0 (!w.params.followText "set-order")) } : Obj) = oS
      have gS : (s.heap.push oS).get? s.heap.objs.size = some oS := Heap.get?_push_size _ (by rw [← hS]; rfl)
      have tS : TxSet w (s.heap.push oS) s.heap.objs.size [] := txs_new (by rw [gS, ← hS])
      have hT : Shared.TypeIs { s with heap := s.heap.push oS } (.ref s.heap.objs.size) "set" := ⟨_, gS, by rw [← hS]⟩
      have dS : oS.data = .set #[] 0 (.fresh 0 0 (!w.params.followText "set-order")) := by rw [← hS]
      have hli := PySem.F.called_set.init.lookup
      have hbi := PySem.F.called_set.init.bind (.ref s.heap.objs.size)
      repeat (any_goals (first | assumption | wp_step))
      refine codeAny_mono (codeAny_call_builtin (R := wants (fun r s2 => r = .none ∧ ∃ h' tk, s2 = { s with heap := h', toks := tk } ∧ TxSet w h' s.heap.objs.size (dedupS ys) ∧ (∀ b o, s.heap.get? b = some o → h'.get? b = some o)) E)
        PySem.F.called_set.init.plain PySem.F.entry_set_init (check_set_init_1 hT ?_)) fun r2 s2 hr2 => ?_
      · subst hS
        unfold Builtin.«set.__init__» noKeywords
        generalize hU : Builtin.Frozenset.updateFrom = U
        wp_walk
        subst hU
        refine up_from (s := { s with heap := s.heap.push _ }) src (by simp [hh]) (src.keep _ _ ok fun b o e => Heap.get?_push_of_some _ e) tS (fun z => absurd (src.low _ ok _ z) (Nat.lt_irrefl _)) room fun h' tk q1 q2 => ?_
        refine wpAny_pure ⟨rfl, h', tk, rfl, q1, fun b o e => q2 b o (fun z => ?_) (Heap.get?_push_of_some _ e)⟩
        exact absurd (Heap.lt_size e) (by rw [z]; exact Nat.lt_irrefl _)
      · cases r2 with
        | error e => exact hr2
        | ok fl2 =>
          cases fl2 with
          | ret r =>
            obtain ⟨rfl, h', tk, rfl, q1, q2⟩ := hr2
            repeat (any_goals (first | assumption | wp_step))
            exact hQ _ _ q1 q2
          | _ => exact hr2.elim
    | _ => exact hr.elim
end
end DL

/-! DL11: set(x), sorted(x), list(x), tuple(x), len of sets. -/
namespace DL
open L2 PySem PySem.Spec PyProof.Rows

theorem vals_strs : ∀ {ys : List Str} {us : List Value}, Vals (ys.map V.str) us → ∀ (i : Nat) (u : Value), us[i]? = some u → ∃ k t, ys[i]? = some k ∧ u = .str k t
  | [], _, .nil, i, u, h => by simp at h
  | y :: r, _, .cons h1 t, 0, u, h => by
    obtain ⟨t, rfl⟩ := h1
    simp at h
    exact ⟨y, t, rfl, h.symm⟩
  | y :: r, _, .cons h1 t, i + 1, u, h => by
    obtain ⟨k, t, e1, e2⟩ := vals_strs t i u (by simpa using h)
    exact ⟨k, t, by simpa using e1, e2⟩
section
variable {P : Program} {w : World}
theorem src_list {l : Addr} {items : Array Value} {ys : List Str} (hv : Vals (ys.map V.str) items.toList) : Src P w (.ref l) "list" ys [l] (fun h => h.IsList l items) where
  ty := fun s h => h.typeIs
  s1 := PySem.F.sub_list_set
  s2 := PySem.F.sub_list_frozenset
  s3 := by decide
  keep := fun h h' ok k => ok.at fun o e => k l o e
  low := fun h ok b hb => by
    rw [List.mem_singleton.mp hb]
    exact let ⟨_, e, _⟩ := ok; Heap.lt_size e
  it := fun A E s Q ok q => by
    have hl : items.size = ys.length := by rw [← Array.length_toList, ← hv.length, List.length_map]
    have ne : l ≠ s.heap.objs.size := Nat.ne_of_lt (let ⟨_, e, _⟩ := ok; Heap.lt_size e)
    refine wpAny_pyIter_list ok (q _ [s.heap.objs.size, l] _ (fun i h => h.IsListIter s.heap.objs.size l i ∧ h.IsList l items) (fun b hb => ?_) (fun A' hA => by rw [← hl]; exact Walks.list hA _ l ne items) (fun i u e => vals_strs hv i u (by rw [Array.getElem?_toList]; exact e)) ⟨(⟨_, Heap.get?_push_size _ rfl, rfl, rfl⟩ : Heap.IsListIter _ _ _ _), ok.push _⟩)
    simpa using hb
theorem src_tup {l : Addr} {items : Array Value} {ys : List Str} (hv : Vals (ys.map V.str) items.toList) : Src P w (.ref l) "tuple" ys [l] (fun h => h.IsTuple l items) where
  ty := fun s h => h.typeIs
  s1 := PySem.F.sub_tuple_set
  s2 := PySem.F.sub_tuple_frozenset
  s3 := by decide
  keep := fun h h' ok k => ok.at fun o e => k l o e
  low := fun h ok b hb => by
    rw [List.mem_singleton.mp hb]
    exact let ⟨_, e, _⟩ := ok; Heap.lt_size e
  it := fun A E s Q ok q => by
    have hl : items.size = ys.length := by rw [← Array.length_toList, ← hv.length, List.length_map]
    have ne : l ≠ s.heap.objs.size := Nat.ne_of_lt (let ⟨_, e, _⟩ := ok; Heap.lt_size e)
    refine wpAny_pyIter_tuple ok (q _ [s.heap.objs.size, l] _ (fun i h => h.IsTupleIter s.heap.objs.size l i ∧ h.IsTuple l items) (fun b hb => ?_) (fun A' hA => by rw [← hl]; exact Walks.tuple hA _ l ne items) (fun i u e => vals_strs hv i u (by rw [Array.getElem?_toList]; exact e)) ⟨(⟨_, Heap.get?_push_size _ rfl, rfl, rfl⟩ : Heap.IsTupleIter _ _ _ _), ok.push _⟩)
    simpa using hb
theorem src_str {x : Str} {t : Tok} : Src P w (.str x t) "str" (signs x) [] (fun _ => True) where
  ty := fun s _ => typeIs_str s x t
  s1 := PySem.F.sub_str_set
  s2 := PySem.F.sub_str_frozenset
  s3 := by decide
  keep := fun _ _ _ _ => trivial
  low := fun _ _ b hb => nomatch hb
  it := fun A E s Q _ q => by
    have hl : x.cps.size = (signs x).length := by simp [signs]
    refine wpAny_pyIter_str fun o St W st => q o [s.heap.objs.size] _ St (fun b hb => .inl (List.mem_singleton.mp hb)) (fun A' hA => by rw [← hl]; exact W A' hA) (fun i u e => ?_) st
    obtain ⟨c, t', e1, e2⟩ := e
    refine ⟨⟨#[c]⟩, t', ?_, e2⟩
    simp [signs, e1]
end
def setS : List D → Option SV
  | [.str x] => if (signs x).length + 1 < scanBound then some (.dat (.sS (dedupS (signs x)))) else none
  | [.lst ds] => (strsOf ds).bind fun ys => if ys.length + 1 < scanBound then some (.dat (.sS (dedupS ys))) else none
  | [.tup ds] => (strsOf ds).bind fun ys => if ys.length + 1 < scanBound then some (.dat (.sS (dedupS ys))) else none
  | _ => none
section
variable {X : Cx}
theorem frz_new {P : Program} {w : World} {H : Hp} {h : Heap} {a : Addr} {o : Obj} (e : h.get? a = some o) : ObjOk P w H h a (.frz o (.ext fun h => h.get? a = some o)) :=
  ⟨e, e, ⟨o, e⟩, fun h1 h2 p k => k o p⟩
theorem set_fin {pins : List (Addr × Obj)} {σ : Sl} {H : Hp} {s : Shared} {Q : VK} {h' : Heap} {tk : Nat} {l : List Str} (I : Inv X pins σ H s) (R : TxSet X.w h' s.heap.objs.size l) (k : ∀ b o, s.heap.get? b = some o → h'.get? b = some o) (q : Pst (kw X) H Q (.dat (.sS l))) :
    EP X pins σ Q (.ref s.heap.objs.size) { s with heap := h', toks := tk } := by
  obtain ⟨o, es, ep, t, ho, hx, hd, D⟩ := R
  have hn := I.hok.fresh (Nat.le_refl s.heap.objs.size)
  refine ⟨.ref s.heap.objs.size, _, I.laid (t' := tk) (o := .frz o (.ext fun h => h.get? s.heap.objs.size = some o)) k (Nat.le_refl _) (frz_new ho), rfl, ?_⟩
  exact q _ _ (same_new hn) (.sS upd_same hx hd D)
theorem c_set (hc : X.calm = true) : CallR X (.type "set") (gN (kw X) setS) := by
  intro pins s σ H xs us Q I r h
  obtain ⟨ds, z, hd, hF, hp⟩ := h
  unfold setS at hF
  split at hF
  · split at hF
    · rename_i x hz
      cases hF
      obtain ⟨v, rfl, h1⟩ := rvs1 hd
      rw [rv_str h1] at r
      obtain ⟨u, rfl, t, rfl⟩ := vals1 r
      exact call_set_src src_str (I.ok.hd hc) trivial hz fun h' tk R k => set_fin I R k hp
    · cases hF
  · simp only [Option.bind_eq_some_iff] at hF
    obtain ⟨ys, e, hF⟩ := hF
    split at hF
    · rename_i hz
      cases hF
      obtain ⟨v, rfl, a, vs, rfl, h1, h2⟩ := rvs1 hd
      rw [strsOf_eq e] at h2
      rw [Dvs.strs_inv h2] at h1
      obtain ⟨u, rfl, rx⟩ := vals1 r
      cases rx
      obtain ⟨_, its, n, rv, _, ho⟩ := inv_lst I h1
      exact call_set_src (src_list (items := its.toArray) (by simpa using rv)) (I.ok.hd hc) ⟨_, ho, rfl, n, rfl⟩ hz fun h' tk R k => set_fin I R k hp
    · cases hF
  · simp only [Option.bind_eq_some_iff] at hF
    obtain ⟨ys, e, hF⟩ := hF
    split at hF
    · rename_i hz
      cases hF
      obtain ⟨v, rfl, h0⟩ := rvs1 hd
      obtain ⟨a, vs, rfl, h1, h2⟩ := rv_tup h0
      rw [strsOf_eq e] at h2
      rw [Dvs.strs_inv h2] at h1
      obtain ⟨u, rfl, rx⟩ := vals1 r
      cases rx
      obtain ⟨its, rv, pl, _⟩ := I.tuple (SqT.of h1)
      exact call_set_src (src_tup (items := its.toArray) (by simpa using rv)) (I.ok.hd hc) pl hz fun h' tk R k => set_fin I R k hp
    · cases hF
  · cases hF
def lenS : List D → Option SV
  | [.sS l] => some (.dat (.int l.length))
  | ds => lenF ds
theorem c_lenS : CallR X (.builtin "len") (gN (kw X) lenS) := by
  intro pins s σ H xs us Q I r h
  obtain ⟨ds, z, hd, hF, hp⟩ := h
  unfold lenS at hF
  split at hF
  · rename_i l
    cases hF
    obtain ⟨v, rfl, h0⟩ := rvs1 hd
    obtain ⟨u, rfl, rx⟩ := vals1 r
    cases (show Dv (kw X) H v (.sS l) from h0) with
    | sS h1 h2 h3 h4 =>
      cases rx
      rename_i a o u es ep t
      have e : es.size = l.length := by
        have := h4.pm.length_eq
        simpa using this
      have few := h4.few
      have ho : s.heap.get? a = some o := (I.hok _ _ h1).1
      refine call_len_set ho h2 h3 h4.fit (by unfold scanBound at few; omega) ⟨.int _, H, I.tok _, ⟨_, rfl⟩, ?_⟩
      rw [e]
      exact pst_dat hp (.int _)
  · exact c_len pins s σ H xs us Q I r ⟨_, _, hd, hF, hp⟩
end
end DL

/-! DL12: dicts as their entries; what is gathered; sorted(x), list(x), tuple(x). -/
namespace DL
open L2 PySem PySem.Spec PyProof.Rows

def dictD : D → Option (List D × List D)
  | .dK kvs => some (kvs.map fun kv => keyD kv.1, kvs.map (·.2))
  | .dT kvs => some (kvs.map fun kv => keysT kv.1, kvs.map (·.2))
  | .dN kvs => some (kvs.map fun kv => nkD kv.1, kvs.map (·.2))
  | _ => none
section
variable {X : Cx} {pins : List (Addr × Obj)} {σ : Sl} {H : Hp} {s : Shared}
structure RawD (s : Shared) (a : Addr) (es : Array DictEntry) (ep : Nat) (ks vs : List V) : Prop where
  sys : (a == sysModules) = false
  raw : s.heap.DictRaw a es ep
  nk : es.size = ks.length
  nv : es.size = vs.length
  few : es.size ≤ sizeLine
  ent : ∀ i (hi : i < es.size), ∃ k v, ks[i]? = some k ∧ vs[i]? = some v ∧ RelV k es[i].key ∧ RelV v es[i].val
theorem kt_at {kvs : List (List Key × V)} {xs : List (List Key × Addr × Value)} (h : KT H kvs xs) : ∀ {i : Nat} {y : List Key × Addr × Value}, xs[i]? = some y → ∃ p, kvs[i]? = some p ∧ p.1 = y.1 ∧ H y.2.1 = some (.tup (p.1.map kV)) ∧ RelV p.2 y.2.2 := by
  induction h with
  | nil => intro i y e; simp at e
  | cons r t ih =>
    intro i y e
    cases i with
    | zero => simp at e; subst e; exact ⟨_, rfl, r⟩
    | succ i => exact ih (i := i) (by simpa using e)
theorem kt_keys {K : KW} {kv : List (List Key × V)} {ps : List (List Key × Addr × Value)} (h : KT H kv ps) : Dvs K H (ps.map fun p => V.ref p.2.1) ((kv.map (·.1)).map keysT) := by
  induction h with
  | nil => exact .nil
  | cons r t ih => exact .cons (.tup r.2.1 (dvs_keyD _)) ih
theorem raw_of (I : Inv X pins σ H s) {x : V} {d : D} {kd vd : List D} (h : Rv (kw X) H x d) (e : dictD d = some (kd, vd)) : ∃ a es ep ks vs, x = .ref a ∧ RawD s a es ep ks vs ∧ Dvs (kw X) H ks kd ∧ Dvs (kw X) H vs vd := by
  cases d with
  | dK kvs =>
    cases e
    obtain ⟨a, kv, rfl, h1, h2, h3⟩ := h
    obtain ⟨z, sy, ps, rel, dd⟩ := dk_rd I.hok h1
    obtain ⟨es, ep, raw, n, ent⟩ := dd.raw
    have l1 : kv.length = ps.length := Paired.length rel
    refine ⟨a, es, ep, kv.map (fun p => kV p.1), kv.map (·.2), rfl, ⟨sy, raw, by rw [List.length_map]; omega, by rw [List.length_map]; omega, by omega, fun i hi => ?_⟩, ?_, h3⟩
    · have hi' : i < kv.length := by omega
      obtain ⟨u, e1, e2⟩ := kv_get rel (i := i) (k := kv[i].1) (v := kv[i].2) (List.getElem?_eq_getElem hi')
      obtain ⟨f1, f2⟩ := ent i hi _ _ e1
      refine ⟨kV kv[i].1, kv[i].2, by simp [hi'], by simp [hi'], keyIs_rel f1, ?_⟩
      rw [f2]
      exact e2
    · have e1 : (kv.map fun p => kV p.1) = (kvs.map (·.1)).map kV := by rw [← h2, List.map_map]; rfl
      have e2 : (kvs.map fun kv => keyD kv.1) = (kvs.map (·.1)).map keyD := by rw [List.map_map]; rfl
      rw [e1, e2]
      exact dvs_keyD _
  | dT kvs =>
    cases e
    obtain ⟨a, kv, rfl, h1, h2, h3⟩ := h
    obtain ⟨z, sy, ps, rel, dd⟩ := dt_rd I.hok h1
    obtain ⟨es, ep, raw, n, ent⟩ := dd.raw
    have l1 : kv.length = ps.length := Paired.length rel
    refine ⟨a, es, ep, ps.map (fun p => .ref p.2.1), kv.map (·.2), rfl, ⟨sy, raw, by rw [List.length_map]; omega, by rw [List.length_map]; omega, by omega, fun i hi => ?_⟩, ?_, h3⟩
    · obtain ⟨y, e1, e2, e3, e4⟩ := ent i hi
      obtain ⟨p, f1, f2, f3, f4⟩ := kt_at rel e1
      refine ⟨.ref y.2.1, p.2, by simp [e1], by simp [f1], ?_, ?_⟩
      · rw [e2]; rfl
      · rw [e3]; exact f4
    · have e2 : (kvs.map fun kv => keysT kv.1) = (kv.map (·.1)).map keysT := by rw [h2, List.map_map]; rfl
      rw [e2]
      exact kt_keys rel
  | dN kvs =>
    cases e
    cases (show Dv (kw X) H x (.dN kvs) from h) with
    | dN h1 h2 h3 h4 h5 =>
      rename_i a o u kv
      obtain ⟨g1, _⟩ := I.hok _ _ h1
      obtain ⟨es, ep, e1, e2, ent⟩ := dn_ent h2
      refine ⟨a, es, ep, kv.map (fun p => nkV p.1), kv.map (·.2), rfl, ⟨h3, ⟨o, g1, h2.ex, e1⟩, by rw [List.length_map]; exact e2, by rw [List.length_map]; exact e2, by rw [e2]; exact h2.few, fun i hi => ?_⟩, ?_, h5⟩
      · have hi' : i < kv.length := by omega
        obtain ⟨en, f1, f2, f3⟩ := ent i kv[i].1 kv[i].2 (List.getElem?_eq_getElem hi')
        rw [Array.getElem?_eq_getElem hi] at f1
        cases f1
        exact ⟨nkV kv[i].1, kv[i].2, by simp [hi'], by simp [hi'], nk_rel f2, f3⟩
      · have e3 : (kv.map fun p => nkV p.1) = (kvs.map (·.1)).map nkV := by rw [← h4, List.map_map]; rfl
        have e4 : (kvs.map fun kv => nkD kv.1) = (kvs.map (·.1)).map nkD := by rw [List.map_map]; rfl
        rw [e3, e4]
        exact dvs_nkD _
  | _ => cases e

/-! ### gathered -/
theorem vals_get {vs : List V} {us : List Value} (h : Vals vs us) {i : Nat} {u : Value} (e : us[i]? = some u) : ∃ v, vs[i]? = some v ∧ RelV v u := by
  induction h generalizing i with
  | nil => simp at e
  | cons r t ih =>
    cases i with
    | zero => simp at e; subst e; exact ⟨_, rfl, r⟩
    | succ i => exact ih (by simpa using e)
theorem signs_vals {x : Str} {acc : Array Value} (h : ItemsOf (SignAt x) acc x.cps.size) : Vals ((signs x).map V.str) acc.toList := by
  have hl : (signs x).length = x.cps.size := by simp [signs]
  refine vals_of_at (by rw [List.length_map, hl, Array.length_toList, h.1]) fun j v u e1 e2 => ?_
  obtain ⟨c, t, e3, rfl⟩ := h.2 j u (by rw [← Array.getElem?_toList]; exact e2)
  have e4 : (signs x)[j]? = some ⟨#[c]⟩ := by simp [signs, e3]
  rw [List.getElem?_map, e4] at e1
  cases e1
  exact ⟨t, rfl⟩
theorem raw_keys {a : Addr} {es : Array DictEntry} {ep : Nat} {ks vs : List V} (R : RawD s a es ep ks vs) {acc : Array Value} (h : ItemsOf (fun i v => ∃ hi : i < es.size, v = es[i].key) acc es.size) : Vals ks acc.toList := by
  refine vals_of_at (by rw [← R.nk, Array.length_toList, h.1]) fun j v u e1 e2 => ?_
  obtain ⟨hi, rfl⟩ := h.2 j u (by rw [← Array.getElem?_toList]; exact e2)
  obtain ⟨k, v', f1, f2, f3, f4⟩ := R.ent j hi
  rw [e1] at f1
  cases f1
  exact f3
theorem raw_vals {a : Addr} {es : Array DictEntry} {ep : Nat} {ks vs : List V} (R : RawD s a es ep ks vs) {acc : Array Value} (h : ItemsOf (fun i v => ∃ hi : i < es.size, v = es[i].val) acc es.size) : Vals vs acc.toList := by
  refine vals_of_at (by rw [← R.nv, Array.length_toList, h.1]) fun j v u e1 e2 => ?_
  obtain ⟨hi, rfl⟩ := h.2 j u (by rw [← Array.getElem?_toList]; exact e2)
  obtain ⟨k, v', f1, f2, f3, f4⟩ := R.ent j hi
  rw [e1] at f2
  cases f2
  exact f4
theorem coll {A : Around} {E : Value → Shared → Prop} {Q : List Value → Shared → Prop} {x : V} {u : Value} {d : D} {ds : List D} (hA : A.handled = none) (I : Inv X pins σ H s) (h : Rv (kw X) H x d) (rx : RelV x u) (e : itemsD d = some ds) (sz : ds.length ≤ sizeLine)
    (hQ : ∀ h' tk its vs, (∀ b o, s.heap.get? b = some o → h'.get? b = some o) → Vals vs its → Dvs (kw X) H vs ds → Q its { s with heap := h', toks := tk }) : wpAny (model X.prog X.w) A (collect u) Q E s := by
  have dic : ∀ {a : Addr} {kd vd : List D}, dictD d = some (kd, vd) → kd = ds → wpAny (model X.prog X.w) A (collect u) Q E s := fun {a kd vd} e1 e2 => by
    obtain ⟨a, es, ep, ks, vs, rfl, R, h1, h2⟩ := raw_of I h e1
    cases rx
    exact PySem.W.kdu_collect (KdlSrc.rawDict R.sys) hA R.raw R.few fun h' tk acc k it => hQ h' tk _ ks k (raw_keys R it) (e2 ▸ h1)
  cases d with
  | lst xs =>
    cases e
    obtain ⟨a, vs, rfl, h1, h2⟩ := h
    cases rx
    obtain ⟨_, its, n, rv, _, ho⟩ := inv_lst I h1
    exact wpAny_collect_seq a (.inl rfl) ho rfl rfl (fun h' k => hQ h' s.toks _ vs k (by simpa using rv) h2) (by rw [List.size_toArray, ← rv.length, h2.length]; exact sz)
  | tup xs =>
    cases e
    obtain ⟨a, vs, rfl, h1, h2⟩ := rv_tup h
    cases rx
    obtain ⟨its, rv, ⟨o, ho, hc, n, hd⟩, _⟩ := I.tuple (SqT.of h1)
    exact wpAny_collect_seq a (.inr rfl) ho hc hd (fun h' k => hQ h' s.toks _ vs k (by simpa using rv) h2) (by rw [List.size_toArray, ← rv.length, h2.length]; exact sz)
  | str x =>
    cases e
    rw [rv_str h] at rx
    obtain ⟨t, rfl⟩ := rx
    refine wpAny_collect_str hA x t (fun s' acc k hg hd ho it => ?_) (by simpa [signs] using sz)
    obtain ⟨h', g', d', tk', os'⟩ := s'
    cases hg
    cases hd
    cases ho
    exact hQ h' tk' _ _ k (signs_vals it) (Dvs.strs _)
  | dK kvs => exact dic (a := 0) rfl (by cases e; rfl)
  | dT kvs => exact dic (a := 0) rfl (by cases e; rfl)
  | non => cases e
  | bl b => cases e
  | int b => cases e
  | sS b => cases e
  | dN kvs => exact dic (a := 0) rfl (by cases e; rfl)
  | scr b => cases e
/-- list(x) -/
def listF : List D → Option SV
  | [d] => (itemsD d).bind fun ds => if ds.length ≤ sizeLine then some (.own (.ml ds)) else none
  | _ => none
theorem lst_fin {Q : VK} {h' : Heap} {tk c : Nat} {its : Array Value} {vs : List V} {ds : List D} (I : Inv X pins σ H s) (k : ∀ b o, s.heap.get? b = some o → h'.get? b = some o) {p : Addr} (hp : s.heap.objs.size ≤ p) (e : h'.get? p = some { cls := .type "list", dict := none, data := .seq its c, slots := #[] })
    (rv : Vals vs its.toList) (hv : Dvs (kw X) H vs ds) (sz : ds.length ≤ sizeLine) (q : Pst (kw X) H Q (.own (.ml ds))) : EP X pins σ Q (.ref p) { s with heap := h', toks := tk } := by
  refine ⟨.ref p, _, I.laid (t' := tk) (o := .lst vs) k hp ⟨by rw [hv.length]; exact sz, its.toList, c, rv, ?_⟩, rfl, pst_lst q hv (I.hok.fresh hp)⟩
  rw [Array.toArray_toList]
  exact e
theorem c_list (hc : X.calm = true) : CallR X (.type "list") (gN (kw X) listF) := by
  intro pins s σ H xs us Q I r h
  obtain ⟨ds, z, hd, hF, hp⟩ := h
  unfold listF at hF
  split at hF
  · rename_i d
    simp only [Option.bind_eq_some_iff] at hF
    obtain ⟨es, e, hF⟩ := hF
    split at hF
    · rename_i sz
      cases hF
      obtain ⟨v, rfl, h⟩ := rvs1 hd
      have dic : ∀ {kd vd : List D}, dictD d = some (kd, vd) → kd = es → wpAny (model X.prog X.w) X.A (call (.type "list") us) (EP X pins σ Q) X.xe s := fun {kd vd} e1 e2 => by
        obtain ⟨a, es', ep, ks, vs, rfl, R, h1, h2⟩ := raw_of I h e1
        obtain ⟨u, rfl, rx⟩ := vals1 r
        cases rx
        exact PySem.W.kdl_call (KdlSrc.rawDict R.sys) (I.ok.hd hc) R.raw R.few fun h' tk acc c k e it => lst_fin I k (Nat.le_refl _) e (raw_keys R it) (e2 ▸ h1) sz hp
      cases d with
      | lst ys =>
        cases e
        obtain ⟨a, vs, rfl, h1, h2⟩ := h
        exact call_list_of pins s σ H _ us Q I r ⟨a, vs, rfl, .inl (.inl h1), fun l hl => pst_lst hp h2 hl⟩
      | tup ys =>
        cases e
        obtain ⟨a, vs, rfl, h1, h2⟩ := rv_tup h
        exact call_list_of pins s σ H _ us Q I r ⟨a, vs, rfl, .inr (SqT.of h1), fun l hl => pst_lst hp h2 hl⟩
      | str x =>
        cases e
        rw [rv_str h] at r
        obtain ⟨u, rfl, t, rfl⟩ := vals1 r
        exact call_list_str (I.ok.hd hc) x t (fun h' tk acc c k e it => lst_fin I k (Nat.le_refl _) e (signs_vals it) (Dvs.strs _) sz hp) (by simpa [signs] using sz)
      | dK kvs => exact dic rfl (by cases e; rfl)
      | dT kvs => exact dic rfl (by cases e; rfl)
      | non => cases e
      | bl b => cases e
      | int b => cases e
      | sS b => cases e
      | dN kvs => exact dic rfl (by cases e; rfl)
      | scr b => cases e
    · cases hF
  · cases hF
def tupleF : List D → Option SV
  | [.lst ds] => some (.dat (.tup ds))
  | [.tup ds] => some (.dat (.tup ds))
  | _ => none
theorem c_tuple : CallR X (.type "tuple") (gN (kw X) tupleF) := by
  intro pins s σ H xs us Q I r h
  obtain ⟨ds, z, hd, hF, hp⟩ := h
  unfold tupleF at hF
  split at hF
  · cases hF
    obtain ⟨v, rfl, a, vs, rfl, h1, h2⟩ := rvs1 hd
    exact call_tuple_of pins s σ H _ us Q I r ⟨a, vs, rfl, .inl ⟨.inl h1, fun l hl => pst_tup hp h2 hl⟩⟩
  · cases hF
    obtain ⟨v, rfl, h⟩ := rvs1 hd
    obtain ⟨a, vs, rfl, h1, h2⟩ := rv_tup h
    exact call_tuple_of pins s σ H _ us Q I r ⟨a, vs, rfl, .inr ⟨SqT.of h1, pst_dat hp (.tup h1 h2)⟩⟩
  · cases hF
end
end DL

/-! DL13: sorted(x). -/
namespace DL
open L2 PySem PySem.Spec PyProof.Rows PySem.W

def encD (d : D) : PyData := (D.pd d).getD .none
def alikeB (ps : List PyData) : Bool := ps.all fun p => ps.all fun q => alike p q
def isTupB : PyData → Bool
  | .tuple (_ :: _) => true
  | _ => false
def noTupB : PyData → Bool
  | .none => false
  | .tuple _ => false
  | _ => true
def sortB (ps : List PyData) : Bool := ps.all isTupB || ps.all noTupB
/-- the sorted list of ds, when all are alike -/
def sortD (ds : List D) : Option (List D) := (D.pds ds).bind fun ps =>
  if alikeB ps = true ∧ sortB ps = true ∧ PyData.depthAll ps ≤ 60 ∧ ds.length ≤ sizeLine then some (ds.mergeSort (dataLe false encD)) else none
theorem alikeB_iff {ps : List PyData} : alikeB ps = true ↔ AllAlike ps := by
  unfold alikeB AllAlike
  simp only [List.all_eq_true]
theorem sortB_ok {ps : List PyData} (h : sortB ps = true) : Sortable ps := by
  unfold sortB at h
  rw [Bool.or_eq_true] at h
  rcases h with h | h
  · refine .inl fun d hd => ?_
    have := List.all_eq_true.mp h d hd
    unfold isTupB at this
    split at this
    · exact ⟨_, _, rfl⟩
    · cases this
  · refine .inr fun d hd => ?_
    have := List.all_eq_true.mp h d hd
    constructor
    · rintro rfl
      cases this
    · rintro xs rfl
      cases this
theorem pds_enc : ∀ {ds : List D} {ps : List PyData}, D.pds ds = some ps → ds.map encD = ps ∧ ∀ d ∈ ds, D.pd d = some (encD d)
  | [], _, h => by cases h; exact ⟨rfl, fun d hd => nomatch hd⟩
  | d :: ds, ps, h => by
    simp only [D.pds, Option.bind_eq_some_iff] at h
    obtain ⟨p, h1, qs, h2, h3⟩ := h
    cases h3
    obtain ⟨e1, e2⟩ := pds_enc h2
    have e : encD d = p := by unfold encD; rw [h1]; rfl
    refine ⟨by rw [List.map_cons, e1, e], fun y hy => ?_⟩
    rcases List.mem_cons.mp hy with rfl | hy
    · rw [e]; exact h1
    · exact e2 y hy
theorem depth_mem : ∀ {ps : List PyData} {p : PyData}, p ∈ ps → p.depth ≤ PyData.depthAll ps
  | q :: ps, p, h => by
    rcases List.mem_cons.mp h with rfl | h
    · simp only [PyData.depthAll]; omega
    · have := depth_mem h
      simp only [PyData.depthAll]; omega
mutual
theorem reads_low {h : Heap} : ∀ {v : Value} {d : PyData} {as : List Addr}, Reads h v d as → ∀ a ∈ as, a < h.objs.size
  | _, _, _, .none => fun a ha => nomatch ha
  | _, _, _, .bool b => fun a ha => nomatch ha
  | _, _, _, .int i t => fun a ha => nomatch ha
  | _, _, _, .str x t => fun a ha => nomatch ha
  | _, _, _, .list h1 h2 h3 h4 => fun a ha => by
    rcases List.mem_cons.mp ha with rfl | ha
    · exact Heap.lt_size h1
    · exact readsAll_low h4 a ha
  | _, _, _, .tuple h1 h2 h3 h4 => readsAll_low h4
  | _, _, _, .dict h1 h2 h3 h4 h5 => fun a ha => by
    rcases List.mem_append.mp ha with ha | ha
    · rcases List.mem_cons.mp ha with rfl | ha
      · exact Heap.lt_size h1
      · exact readsAll_low h4 a ha
    · exact readsAll_low h5 a ha
theorem readsAll_low {h : Heap} : ∀ {vs : List Value} {ds : List PyData} {as : List Addr}, ReadsAll h vs ds as → ∀ a ∈ as, a < h.objs.size
  | _, _, _, .nil => fun a ha => nomatch ha
  | _, _, _, .cons h1 h2 => fun a ha => by
    rcases List.mem_append.mp ha with ha | ha
    · exact reads_low h1 a ha
    · exact readsAll_low h2 a ha
end
section
variable {X : Cx} {pins : List (Addr × Obj)} {σ : Sl} {H : Hp} {s : Shared}
def Isd (X : Cx) (H : Hp) (u : Value) (d : D) : Prop := ∃ x : V, RelV x u ∧ Dv (kw X) H x d
theorem isd_each : ∀ {vs : List V} {us : List Value} {ds : List D}, Vals vs us → Dvs (kw X) H vs ds → EachIs (Isd X H) us ds
  | _, _, _, .nil, .nil => .nil
  | _, _, _, .cons r rs, .cons h hs => .cons ⟨_, r, h⟩ (isd_each rs hs)
theorem isd_back : ∀ {us : List Value} {ds : List D}, EachIs (Isd X H) us ds → ∃ vs, Vals vs us ∧ Dvs (kw X) H vs ds
  | _, _, .nil => ⟨[], .nil, .nil⟩
  | _, _, .cons ⟨x, r, h⟩ t => by
    obtain ⟨vs, rs, hs⟩ := isd_back t
    exact ⟨x :: vs, .cons r rs, .cons h hs⟩
theorem isd_reads (I : Inv X pins σ H s) (o : Obj) : ∀ {us : List Value} {ds : List D}, EachIs (Isd X H) us ds → (∀ d ∈ ds, D.pd d = some (encD d)) → EachIs (fun v b => ∃ as, Reads (s.heap.push o) v (encD b) as ∧ s.heap.objs.size ∉ as) us ds
  | _, _, .nil, _ => .nil
  | _, _, .cons (b := d) ⟨x, r, h⟩ t, f => by
    obtain ⟨as, q⟩ := dv_reads I d _ x _ (f d List.mem_cons_self) h r
    refine .cons ⟨as, PyProof.Rows.Reads.keeps (fun b u e => Heap.get?_push_of_some _ e) q, fun z => Nat.lt_irrefl _ (reads_low q _ z)⟩ (isd_reads I o t fun y hy => f y (List.mem_cons_of_mem _ hy))
/-- the end of sorted: the new list is sorted -/
theorem sort_fin {A : Around} {E : Value → Shared → Prop} {R : Value → Shared → Prop} {Q : VK} {us : List Value} {vs : List V} {ds es : List D} (I1 : Inv X pins σ H s) (rv : Vals vs us) (hv : Dvs (kw X) H vs ds)
    (e : sortD ds = some es) (hu : A.units + 62 < cLine) (q : Pst (kw X) H Q (.own (.ml es))) (hR : ∀ s', EP X pins σ Q (.ref s.heap.objs.size) s' → R .none s') :
    wpAny (model X.prog X.w) A (call (.builtin "list.sort") [.ref s.heap.objs.size]) R E { s with heap := s.heap.push (seqObj "list" us.toArray 0) } := by
  unfold sortD at e
  simp only [Option.bind_eq_some_iff] at e
  obtain ⟨ps, e1, e2⟩ := e
  split at e2
  · rename_i c
    cases e2
    obtain ⟨c1, c2, c3, c4⟩ := c
    obtain ⟨f1, f2⟩ := pds_enc e1
    have ho : (s.heap.push (seqObj "list" us.toArray 0)).get? s.heap.objs.size = some (seqObj "list" us.toArray 0) := Heap.get?_push_size _ rfl
    have ei := isd_each rv hv
    have er : EachIs (fun v b => ∃ as, Reads (s.heap.push (seqObj "list" us.toArray 0)) v (encD b) as ∧ s.heap.objs.size ∉ as) us ds := by
      exact isd_reads I1 _ ei f2
    refine list_sort_data (s := { s with heap := s.heap.push (seqObj "list" us.toArray 0) }) (enc := encD) ho ei er (by rw [f1]; exact alikeB_iff.mp c1) (by rw [f1]; exact sortB_ok c2) c4 (fun b hb => ?_) fun out hl eo => hR _ ?_
    · have : encD b ∈ ps := by rw [← f1]; exact List.mem_map.mpr ⟨b, hb, rfl⟩
      have := depth_mem this
      omega
    · obtain ⟨ws, rw', hw⟩ := isd_back eo
      obtain ⟨n, hn⟩ := sortedHeap_at (vs := us) (out := out.toArray) ho
      refine ⟨.ref s.heap.objs.size, _, I1.laid (t' := s.toks) (o := .lst ws) (h' := sortedHeap (s.heap.push (seqObj "list" us.toArray 0)) s.heap.objs.size us out.toArray) (fun b o eb => ?_) (Nat.le_refl _) ⟨?_, out, n, rw', hn⟩, rfl, pst_lst q hw (I1.hok.fresh (Nat.le_refl _))⟩
      · have lt := Heap.lt_size eb
        rw [sortedHeap_old (Nat.ne_of_lt lt) (by rw [size_push']; exact Nat.lt_succ_of_lt lt)]
        exact Heap.get?_push_of_some _ eb
      · rw [hw.length, List.length_mergeSort]
        exact c4
  · cases e2

/-- sets, in their sorted row -/
def sortF : List D → Option SV
  | [.sS l] => (sortD (l.map .str)).map fun es => .own (.ml es)
  | [d] => (itemsD d).bind fun ds => (sortD ds).map fun es => .own (.ml es)
  | _ => none
theorem sortD_len {ds es : List D} (e : sortD ds = some es) : ds.length ≤ sizeLine := by
  unfold sortD at e
  simp only [Option.bind_eq_some_iff] at e
  obtain ⟨ps, e1, e2⟩ := e
  split at e2
  · rename_i c
    exact c.2.2.2
  · cases e2
theorem pds_strs : ∀ l : List Str, D.pds (l.map .str) = some (l.map .str)
  | [] => rfl
  | x :: r => by
    rw [List.map_cons, D.pds, pds_strs r]
    rfl
def leS (a b : Str) : Bool := decide (a.cps.toList ≤ b.cps.toList)
theorem leS_trans (a b c : Str) (h1 : leS a b = true) (h2 : leS b c = true) : leS a c = true :=
  decide_eq_true (List.le_trans (of_decide_eq_true h1) (of_decide_eq_true h2))
theorem leS_total (a b : Str) : (leS a b || leS b a) = true := by
  rcases List.le_total a.cps.toList b.cps.toList with h | h
  · rw [Bool.or_eq_true]; exact .inl (decide_eq_true h)
  · rw [Bool.or_eq_true]; exact .inr (decide_eq_true h)
theorem leS_anti {a b : Str} (h1 : leS a b = true) (h2 : leS b a = true) : a = b := str_of_cps (List.le_antisymm (of_decide_eq_true h1) (of_decide_eq_true h2))
def sortS (l : List Str) : List Str := l.mergeSort leS
theorem sortS_perm (l : List Str) : (sortS l).Perm l := List.mergeSort_perm l leS
theorem sortS_rise (l : List Str) : (sortS l).Pairwise fun a b => leS a b = true := List.pairwise_mergeSort leS_trans leS_total l
theorem sortS_eq {l m : List Str} (p : l.Perm m) : sortS l = sortS m :=
  List.Perm.eq_of_pairwise (fun a b _ _ h1 h2 => leS_anti h1 h2) (sortS_rise l) (sortS_rise m) (((sortS_perm l).trans p).trans (sortS_perm m).symm)
theorem alike_strs (l : List Str) : alikeB (l.map .str) = true := by
  unfold alikeB
  simp only [List.all_map, List.all_eq_true]
  intro a _
  simp only [Function.comp, List.all_eq_true]
  intro b _
  rfl
theorem sortB_strs (l : List Str) : sortB (l.map .str) = true := by
  unfold sortB
  rw [Bool.or_eq_true]
  refine .inr ?_
  simp only [List.all_map, List.all_eq_true]
  intro a _
  rfl
theorem depth_strs : ∀ l : List Str, PyData.depthAll (l.map .str) = 0
  | [] => rfl
  | x :: r => by
    have := depth_strs r
    simp only [List.map_cons, PyData.depthAll, this]
    rfl
theorem sortD_strs (l : List Str) (h : l.length ≤ sizeLine) : sortD (l.map .str) = some ((sortS l).map .str) := by
  unfold sortD
  rw [pds_strs]
  have c : alikeB (l.map PyData.str) = true ∧ sortB (l.map PyData.str) = true ∧ PyData.depthAll (l.map PyData.str) ≤ 60 ∧ (l.map D.str).length ≤ sizeLine := ⟨alike_strs l, sortB_strs l, by rw [depth_strs]; omega, by rw [List.length_map]; exact h⟩
  show (if alikeB (l.map PyData.str) = true ∧ sortB (l.map PyData.str) = true ∧ PyData.depthAll (l.map PyData.str) ≤ 60 ∧ (l.map D.str).length ≤ sizeLine then _ else _) = _
  rw [if_pos c]
  congr 1
  unfold sortS
  refine (List.map_mergeSort fun a _ b _ => ?_).symm
  have e := congrFun (congrFun (dataLe_str (fun x : Str => x)) a) b
  exact e.symm
theorem dvs_strs_of {K : KW} {H : Hp} (l : List Str) : Dvs K H (l.map V.str) (l.map D.str) := Dvs.strs l
theorem out_strs {w : World} {es : Array (Int × Value)} {t : SetTable} {l : List Str} (D : SetD w es t l) {out : List Value} (p : out.Perm (es.toList.map (·.2))) : ∃ m : List Str, m.Perm l ∧ Vals (m.map V.str) out := by
  have good : ∀ v ∈ out, ∃ k u, v = .str k u := fun v hv => by
    obtain ⟨e, he, rfl⟩ := List.mem_map.mp (p.mem_iff.mp hv)
    obtain ⟨k, u, e1, _⟩ := D.good e he
    exact ⟨k, u, e1⟩
  refine ⟨out.map fun v => keyS (0, v), ?_, ?_⟩
  · have q := p.map fun v => keyS (0, v)
    rw [List.map_map] at q
    exact q.trans D.pm
  · clear p
    induction out with
    | nil => exact .nil
    | cons v r ih =>
      obtain ⟨k, u, rfl⟩ := good v List.mem_cons_self
      exact .cons ⟨u, rfl⟩ (ih fun v hv => good v (List.mem_cons_of_mem _ hv))
theorem sorted_with {A : Around} {E : Value → Shared → Prop} {v : Value} {Q : Value → Shared → Prop} (hc : wpAny (model X.prog X.w) A.in1 (collect v) (fun us s1 => us.length ≤ sizeLine ∧ wpAny (model X.prog X.w) A.in1 (call (.builtin "list.sort") [.ref s1.heap.objs.size]) (fun _ s2 => Q (.ref s1.heap.objs.size) s2) E
    { s1 with heap := s1.heap.push (seqObj "list" us.toArray 0) }) E s) : wpAny (model X.prog X.w) A (call (.builtin "sorted") [v]) Q E s := by
  refine Calls.call_function_entry kind_sorted plain_sorted entry_sorted (args_sorted1 _) ?_
  unfold Builtin.«sorted»
  refine wpAny_bind (m := checkCount "sorted" 1 1 _) (wpAny_pure ?_)
  refine wpAny_bind (wpAny_mono hc (fun us s1 hx => ?_) fun _ _ e => e)
  obtain ⟨hl, hx⟩ := hx
  refine wpAny_bind (wpAny_newList ?_ hl)
  refine wpAny_bind (wpAny_holding (wpAny_mono hx (fun _ s2 q => ?_) fun _ _ e => e))
  exact wpAny_pure ⟨_, rfl, q⟩
theorem c_sorted (hc : X.calm = true) (hu : X.A.units + 64 < cLine) : CallR X (.builtin "sorted") (gN (kw X) sortF) := by
  intro pins s σ H xs us Q I r h
  obtain ⟨ds, z, hd, hF, hp⟩ := h
  unfold sortF at hF
  have hu2 : X.A.in1.units + 62 < cLine := by
    show X.A.units + 1 + 62 < cLine
    omega
  split at hF
  · rename_i l
    simp only [Option.map_eq_some_iff] at hF
    obtain ⟨es, e, rfl⟩ := hF
    obtain ⟨v, rfl, h0⟩ := rvs1 hd
    obtain ⟨u, rfl, rx⟩ := vals1 r
    cases (show Dv (kw X) H v (.sS l) from h0) with
    | sS h1 h2 h3 h4 =>
      cases rx
      rename_i a o u es' ep t
      have ho : s.heap.get? a = some o := (I.hok _ _ h1).1
      have sz := sortD_len e
      rw [List.length_map] at sz
      refine sorted_with (collect_set (I.ok.hd hc) ⟨o, ho, h2.1, h3⟩ h4.fit h4.few h4.ris h4.led fun s1 out k _ hg hos p => ?_)
      obtain ⟨m, pm, rv⟩ := out_strs h4 p
      have J : Inv X pins σ H { s with heap := s1.heap, gens := s1.gens, drawn := s1.drawn, toks := s1.toks } := I.call (ch := []) (Un.kept k) (I.hok.kept k) (by rw [hg]; exact I.bare) (fun _ z => nomatch z)
      have es : s1 = { s with heap := s1.heap, gens := s1.gens, drawn := s1.drawn, toks := s1.toks } := by
        cases s1
        cases s
        cases hos
        rfl
      rw [← es] at J
      refine ⟨by rw [← rv.length, List.length_map, pm.length_eq]; exact sz, sort_fin J rv (Dvs.strs m) ?_ hu2 hp fun s' q => q⟩
      rw [← e, sortD_strs m (by rw [pm.length_eq]; exact sz), sortD_strs l sz, sortS_eq pm]
  · rename_i d hns
    simp only [Option.bind_eq_some_iff, Option.map_eq_some_iff] at hF
    obtain ⟨ds', e, es, e2, rfl⟩ := hF
    obtain ⟨v, rfl, h⟩ := rvs1 hd
    obtain ⟨u, rfl, rx⟩ := vals1 r
    have sz := sortD_len e2
    refine sorted_with (coll (I.ok.hd hc) I h rx e sz fun h' tk its vs k rv hv => ⟨by rw [← rv.length, hv.length]; exact sz, ?_⟩)
    exact sort_fin (s := { s with heap := h', toks := tk }) (I.kept k) rv hv e2 hu2 hp fun s' q => q
  · cases hF
end
end DL

/-! DL14: methods that read: join, count, upper, get, index. -/
namespace DL
open L2 PySem PySem.Spec PyProof.Rows PySem.W

/-- x.m(e, ..) of a value of the type T -/
def meF (T : String) (f : FE) (g : FA) (F : D → List D → Option SV) : FE := fun ρ => (f ρ).bind fun p => (rd p.2 p.1).bind fun d0 => if tyN d0 = T then
    (g p.2).bind fun q => (rd q.2 p.1).bind fun d => (rds q.2 q.1).bind fun ds => (F d ds).bind fun z => some (z.r, q.2)
  else none
section
variable {X : Cx}
theorem rv_has {pins : List (Addr × Obj)} {σ : Sl} {H : Hp} {s : Shared} {x : V} {u : Value} {d : D} {T : String} (I : Inv X pins σ H s) (h : Rv (kw X) H x d) (rx : RelV x u) (hT : T = "str" ∨ T = "list" ∨ T = "dict") (e : tyN d = T) :
    s.TypeIs u T ∧ ∀ a, u = .ref a → ∃ ob, s.heap.get? a = some ob ∧ ob.dict = none := by
  cases d with
  | str y =>
    cases e
    rw [rv_str h] at rx
    obtain ⟨t, rfl⟩ := rx
    exact ⟨typeIs_str s y t, fun _ e => nomatch e⟩
  | lst ds =>
    cases e
    obtain ⟨a, vs, rfl, h1, h2⟩ := h
    cases rx
    obtain ⟨_, its, n, _, _, e⟩ := inv_lst I h1
    refine ⟨⟨_, e, rfl⟩, fun b q => ?_⟩
    cases q
    exact ⟨_, e, rfl⟩
  | dK ds =>
    cases e
    obtain ⟨a, vs, rfl, h1, h2⟩ := h
    cases rx
    obtain ⟨_, _, _, _, o, _, _, e1, e2, _⟩ := h1.ok I.hok
    refine ⟨⟨o, e1, e2.1⟩, fun b q => ?_⟩
    cases q
    exact ⟨_, e1, e2.2.1⟩
  | dT ds =>
    cases e
    obtain ⟨a, vs, rfl, h1, h2⟩ := h
    cases rx
    obtain ⟨_, _, _, _, o, _, _, e1, e2, _⟩ := h1.ok I.hok
    refine ⟨⟨o, e1, e2.1⟩, fun b q => ?_⟩
    cases q
    exact ⟨_, e1, e2.2.1⟩
  | scr ns =>
    cases e
    cases (show Dv (kw X) H x (.scr ns) from h) with
    | scr h1 =>
      cases rx
      obtain ⟨its, _, ⟨o, n, e1, e2, e3, _⟩, _⟩ := I.list h1.sq
      refine ⟨⟨o, e1, e2⟩, fun b q => ?_⟩
      cases q
      exact ⟨o, e1, e3⟩
  | non => cases e; simp [tyN] at hT
  | bl b => cases e; simp [tyN] at hT
  | int b => cases e; simp [tyN] at hT
  | tup b => cases e; simp [tyN] at hT
  | sS b => cases e; simp [tyN] at hT
  | dN kvs =>
    cases e
    cases (show Dv (kw X) H x (.dN kvs) from h) with
    | dN h1 h2 h3 h4 h5 =>
      cases rx
      obtain ⟨g1, _⟩ := I.hok _ _ h1
      refine ⟨⟨_, g1, h2.ex.1⟩, fun b q => ?_⟩
      cases q
      exact ⟨_, g1, h2.ex.2.1⟩
variable {R : List Nat} {o e : Expr} {es : List Expr} {f : FE} {g : FA} {name : Str} {apos cpos : Pos} {T id : String} {F : D → List D → Option SV}
theorem de_me (hF : MtR X id (gM (kw X) F)) (pa : PlainAttrs T) (slot : Slot T name id) (hty : typeOf (.builtin id) = pure (.type "method_descriptor")) (ho : DE X R o f) (ha : DA X R (e :: es) g) (hT : T = "str" ∨ T = "list" ∨ T = "dict" := by decide)
    (hbase : attributeBase o name X.env (eval o X.env) = eval o X.env := by rfl)
    (hfew : ((backTo cpos (starEach (e :: es) X.env)).all (fun x => !x.1) && (backToKw cpos (keywordEach [] X.env)).all (fun x => x.1.isSome)
      && decide ((e :: es).length + ([] : List Keyword).length + (if ([] : List Keyword).isEmpty then 0 else 1) < 30)) = true := by rfl)
    (hline : (apos.endLine == cpos.line) = true := by rfl) (hs : starEach (e :: es) X.env = (false, eval e X.env) :: starEach es X.env := by rfl) (hpl : (backTo cpos (starEach es X.env)).any (·.1) = false := by rfl) :
    DE X R (.Call (.Attribute o name apos) (e :: es) [] cpos) (meF T f g F) := by
  refine ⟨fun pins s σ H Q I hq => ?_⟩
  obtain ⟨ρ, r', ρ', ok, q, k⟩ := hq
  simp only [meF, Option.bind_eq_some_iff] at q
  obtain ⟨⟨ra, ρ1⟩, q1, d0, q2, q3⟩ := q
  split at q3
  · rename_i eT
    simp only [Option.bind_eq_some_iff] at q3
    obtain ⟨⟨rs, ρ2⟩, q4, d, q5, ds, q6, z, q7, q8⟩ := q3
    cases q8
    refine wpAny_Call_method_late hbase hfew hline rfl (thn (tE_run ho I ok q1) fun v s1 ⟨x, H1, I1, r1, k1, ok1, o1⟩ => ?_)
    obtain ⟨h1, h2⟩ := rv_has I1 (RvOk.rd o1 ok1 q2) r1 hT eT
    refine ⟨T, id, pa, slot, hty, h1, h2, ?_⟩
    have hA := ha.run cpos pins s1 σ H1 (fun vs H2 => Kp R σ ρ1 H1 ρ2 H2 ∧ EnvOk (kw X) H2 σ ρ2 ∧ RvsOk (kw X) H1 H2 σ ρ2 vs rs) I1 ⟨ρ1, rs, ρ2, ok1, q4, fun vs H2 a b c => ⟨a, b, c⟩⟩
    rw [hs] at hA ⊢
    refine Calls.callWith_builtin (by show (false || (backTo cpos (starEach es X.env)).any (·.1)) = false; rw [hpl]; rfl) (Calls.evalArgs_plain ?_)
    refine thn hA fun us s2 ⟨vs, H2, I2, r2, k2, ok2, o2⟩ => ?_
    exact hF pins s2 σ H2 x vs v us Q I2 r1 r2 ⟨d, ds, z, RvOk.rd (RvOk.later o1 ok1 k2) ok2 q5, RvsOk.rds o2 ok2 q6, q7, fun y H3 sm fr => k y H3 ((k1.trans k2).trans (Kp.same sm)) (ok2.same sm) (fr.rvOk ok2 fun b hb => (k1.trans k2).trk b hb)⟩
  · cases q3
theorem de_me0 (hF : MtR X id (gM (kw X) F)) (pa : PlainAttrs T) (slot : Slot T name id) (hty : typeOf (.builtin id) = pure (.type "method_descriptor")) (ho : DE X R o f) (hT : T = "str" ∨ T = "list" ∨ T = "dict" := by decide)
    (hbase : attributeBase o name X.env (eval o X.env) = eval o X.env := by rfl) (hline : (apos.endLine == cpos.line) = true := by rfl) : DE X R (.Call (.Attribute o name apos) [] [] cpos) (meF T f nilA F) := by
  refine ⟨fun pins s σ H Q I hq => ?_⟩
  obtain ⟨ρ, r', ρ', ok, q, k⟩ := hq
  simp only [meF, Option.bind_eq_some_iff] at q
  obtain ⟨⟨ra, ρ1⟩, q1, d0, q2, q3⟩ := q
  split at q3
  · rename_i eT
    simp only [nilA, rds, Option.bind_eq_some_iff, Option.some.injEq] at q3
    obtain ⟨_, rfl, d, q5, ds, q6, z, q7, q8⟩ := q3
    cases q6
    cases q8
    refine wpAny_Call_method0_late hbase hline (thn (tE_run ho I ok q1) fun v s1 ⟨x, H1, I1, r1, k1, ok1, o1⟩ => ?_)
    obtain ⟨h1, h2⟩ := rv_has I1 (RvOk.rd o1 ok1 q2) r1 hT eT
    refine ⟨T, id, pa, slot, hty, h1, h2, Calls.callWith_builtin rfl (PySem.evalArgs_none ?_)⟩
    exact hF pins s1 σ H1 x [] v [] Q I1 r1 .nil ⟨d, [], z, RvOk.rd o1 ok1 q5, .nil, q7, fun y H3 sm fr => k y H3 (k1.trans (Kp.same sm)) (ok1.same sm) (fr.rvOk ok1 fun b hb => k1.trk b hb)⟩
  · cases q3

/-! ### of texts -/
def joinM : D → List D → Option SV
  | .str a, [.lst ds] => (strsOf ds).bind fun ys => if (ys.map (·.length)).sum + ys.length * a.length ≤ 16777216 then some (.dat (.str (Txt.join a ys))) else none
  | .str a, [.tup ds] => (strsOf ds).bind fun ys => if (ys.map (·.length)).sum + ys.length * a.length ≤ 16777216 then some (.dat (.str (Txt.join a ys))) else none
  | _, _ => none
theorem m_join : MtR X "str.join" (gM (kw X) joinM) := by
  intro pins s σ H x xs v us Q I rx rxs h
  obtain ⟨d, ds, z, hd, hds, hF, hp⟩ := h
  unfold joinM at hF
  split at hF
  · simp only [Option.bind_eq_some_iff] at hF
    obtain ⟨ys, e, hF⟩ := hF
    split at hF
    · rename_i sz
      cases hF
      obtain ⟨y, rfl, a, vs, rfl, h1, h2⟩ := rvs1 hds
      rw [strsOf_eq e] at h2
      rw [Dvs.strs_inv h2] at h1
      exact mt_join pins s σ H x _ v us Q I rx rxs ⟨_, a, ys, rv_str hd, rfl, .inl (.inl h1), sz, pst_dat hp (.str _)⟩
    · cases hF
  · simp only [Option.bind_eq_some_iff] at hF
    obtain ⟨ys, e, hF⟩ := hF
    split at hF
    · rename_i sz
      cases hF
      obtain ⟨y, rfl, h0⟩ := rvs1 hds
      obtain ⟨a, vs, rfl, h1, h2⟩ := rv_tup h0
      rw [strsOf_eq e] at h2
      rw [Dvs.strs_inv h2] at h1
      exact mt_join pins s σ H x _ v us Q I rx rxs ⟨_, a, ys, rv_str hd, rfl, .inr (SqT.of h1), sz, pst_dat hp (.str _)⟩
    · cases hF
  · cases hF
def countM : D → List D → Option SV
  | .str a, [.str b] => some (.dat (.int (Txt.count a b)))
  | _, _ => none
theorem m_count : MtR X "str.count" (gM (kw X) countM) := by
  intro pins s σ H x xs v us Q I rx rxs h
  obtain ⟨d, ds, z, hd, hds, hF, hp⟩ := h
  unfold countM at hF
  split at hF
  · cases hF
    obtain ⟨y, rfl, h0⟩ := rvs1 hds
    exact mt_count pins s σ H x _ v us Q I rx rxs ⟨_, _, rv_str hd, by rw [rv_str h0], pst_dat hp (.int _)⟩
  · cases hF
def upperM : D → List D → Option SV
  | .str a, [] => if a.length ≤ 5592405 then some (.dat (.str (Txt.upper a))) else none
  | _, _ => none
theorem m_upper : MtR X "str.upper" (gM (kw X) upperM) := by
  intro pins s σ H x xs v us Q I rx rxs h
  obtain ⟨d, ds, z, hd, hds, hF, hp⟩ := h
  unfold upperM at hF
  split at hF
  · split at hF
    · rename_i sz
      cases hF
      exact mt_upper pins s σ H x _ v us Q I rx rxs ⟨_, rv_str hd, rvs0 hds, sz, pst_dat hp (.str _)⟩
    · cases hF
  · cases hF

/-! ### of dicts, lists -/
def getM : D → List D → Option SV
  | .dT kvs, [.tup ks, w] => (toKeys ks).map fun k => .dat ((getK kvs k).getD w)
  | .dK kvs, [d, w] => (toKey d).map fun k => .dat ((getK kvs k).getD w)
  | .dT kvs, [.tup ks] => (toKeys ks).map fun k => .dat ((getK kvs k).getD .non)
  | .dK kvs, [d] => (toKey d).map fun k => .dat ((getK kvs k).getD .non)
  | _, _ => none
/-- what is kept of a thing that is handed on: it must be data that stays -/
def stayD : D → Bool
  | .lst _ => false
  | .dK _ => false
  | .dT _ => false
  | _ => true
theorem rv_stay {K : KW} {H : Hp} {x : V} {d : D} (h : Rv K H x d) (s : stayD d = true) : Dv K H x d := by
  cases d with
  | lst _ => cases s
  | dK _ => cases s
  | dT _ => cases s
  | _ => exact h
def getM' (d : D) (ds : List D) : Option SV := if (ds.drop 1).all stayD = true then getM d ds else none
theorem m_get (hu : X.A.units + 64 < cLine) : MtR X "dict.get" (gM (kw X) getM') := by
  intro pins s σ H x xs v us Q I rx rxs h
  obtain ⟨d, ds, z, hd, hds, hF, hp⟩ := h
  unfold getM' at hF
  split at hF
  · rename_i st
    have fin2 : ∀ {a : Addr} {y w : V} {o : Option V} {q : Option D} {dw : D} {u1 u2 : Value}, DGet H a y o → RelV y u1 → RelV w u2 → Dv (kw X) H w dw → ((o = none ∧ q = none) ∨ ∃ v d, o = some v ∧ q = some d ∧ Dv (kw X) H v d) → z = .dat (q.getD dw) →
        wpAny (model X.prog X.w) X.A (call (.builtin "dict.get") [.ref a, u1, u2]) (EP X pins σ Q) X.xe s := fun {a y w o q dw u1 u2} g ry rw' hw rel ez => by
      subst ez
      refine d_get2 (by omega) I g ry rw' fun w' s' I' r' => ⟨_, H, I', r', ?_⟩
      rcases rel with ⟨rfl, rfl⟩ | ⟨v, d, rfl, rfl, hv⟩
      · exact pst_dat hp hw
      · exact pst_dat hp hv
    have fin1 : ∀ {a : Addr} {y : V} {o : Option V} {q : Option D} {u1 : Value}, DGet H a y o → RelV y u1 → ((o = none ∧ q = none) ∨ ∃ v d, o = some v ∧ q = some d ∧ Dv (kw X) H v d) → z = .dat (q.getD .non) →
        wpAny (model X.prog X.w) X.A (call (.builtin "dict.get") [.ref a, u1]) (EP X pins σ Q) X.xe s := fun {a y o q u1} g ry rel ez => by
      subst ez
      refine d_get1 (by omega) I g ry fun w' s' I' r' => ⟨_, H, I', r', ?_⟩
      rcases rel with ⟨rfl, rfl⟩ | ⟨v, d, rfl, rfl, hv⟩
      · exact pst_dat hp .non
      · exact pst_dat hp hv
    unfold getM at hF
    split at hF
    · simp only [Option.map_eq_some_iff] at hF
      obtain ⟨k, e1, rfl⟩ := hF
      obtain ⟨c, kv, rfl, h3, h4, h5⟩ := hd
      obtain ⟨y, w, rfl, hy, hw⟩ := rvs2 hds
      obtain ⟨a, vs, rfl, h1, h2⟩ := rv_tup hy
      rw [dvs_keys e1 h2] at h1
      obtain ⟨o, g, q⟩ := dget_T (X := X) h3 h1 h4 h5
      obtain ⟨u1, u2, rfl, r1, r2⟩ := vals2 rxs
      cases rx
      exact fin2 g r1 r2 (rv_stay hw (by simpa using st)) q rfl
    · simp only [Option.map_eq_some_iff] at hF
      obtain ⟨k, e1, rfl⟩ := hF
      obtain ⟨c, kv, rfl, h3, h4, h5⟩ := hd
      obtain ⟨y, w, rfl, hy, hw⟩ := rvs2 hds
      obtain ⟨o, g, q⟩ := dget_K (X := X) (k := k) h3 h4 h5
      obtain ⟨u1, u2, rfl, r1, r2⟩ := vals2 rxs
      rw [rv_key e1 hy] at r1
      cases rx
      exact fin2 g r1 r2 (rv_stay hw (by simpa using st)) q rfl
    · simp only [Option.map_eq_some_iff] at hF
      obtain ⟨k, e1, rfl⟩ := hF
      obtain ⟨c, kv, rfl, h3, h4, h5⟩ := hd
      obtain ⟨y, rfl, hy⟩ := rvs1 hds
      obtain ⟨a, vs, rfl, h1, h2⟩ := rv_tup hy
      rw [dvs_keys e1 h2] at h1
      obtain ⟨o, g, q⟩ := dget_T (X := X) h3 h1 h4 h5
      obtain ⟨u1, rfl, r1⟩ := vals1 rxs
      cases rx
      exact fin1 g r1 q rfl
    · simp only [Option.map_eq_some_iff] at hF
      obtain ⟨k, e1, rfl⟩ := hF
      obtain ⟨c, kv, rfl, h3, h4, h5⟩ := hd
      obtain ⟨y, rfl, hy⟩ := rvs1 hds
      obtain ⟨o, g, q⟩ := dget_K (X := X) (k := k) h3 h4 h5
      obtain ⟨u1, rfl, r1⟩ := vals1 rxs
      rw [rv_key e1 hy] at r1
      cases rx
      exact fin1 g r1 q rfl
    · cases hF
  · cases hF
def indexM : D → List D → Option SV
  | .lst xs, [d] => match d.pd, D.pds xs with
    | some p, some ps => if min (PyData.depthAll ps) p.depth ≤ 60 then (SeqAt.dataPlace ps p).map fun j => .dat (.int (j : Nat)) else none
    | _, _ => none
  | _, _ => none
theorem m_index (hu : X.A.units + 64 < cLine) : MtR X "list.index" (gM (kw X) indexM) := by
  intro pins s σ H x xs v us Q I rx rxs h
  obtain ⟨d, ds, z, hd, hds, hF, hp⟩ := h
  unfold indexM at hF
  split at hF
  · split at hF
    · rename_i p ps e1 e2
      split at hF
      · rename_i sz
        simp only [Option.map_eq_some_iff] at hF
        obtain ⟨j, ej, rfl⟩ := hF
        obtain ⟨a, vs, rfl, h1, h2⟩ := hd
        obtain ⟨y, rfl, hy⟩ := rvs1 hds
        obtain ⟨u, rfl, ry⟩ := vals1 rxs
        cases rx
        obtain ⟨hz, its, n, rv, hl, ho⟩ := inv_lst I h1
        obtain ⟨as, r1⟩ := dvs_reads I _ ps _ its e2 h2 rv
        obtain ⟨bs, r2⟩ := rv_reads I e1 hy ry
        have r1' : ReadsAll s.heap its.toArray.toList ps as := by simpa using r1
        obtain ⟨hj, hit, hno⟩ := SeqAt.hit_at r1' (pds_plain _ _ e2) ej
        have sl := sizeLine_eq
        have hj' : j < its.length := by simpa using hj
        refine call_meets PySem.F.slot_list_index ⟨_, ho, rfl⟩ PySem.F.entry_list_index (PySem.F.args_list_index_2 _ _) (SeqAt.list_indexAt a its.toArray n none #[] u _ j hj (by omega) hit hno) ⟨ho, SeqAt.items_plain r1' r2 (pds_plain _ _ e2) (pd_plain _ _ e1) (by omega), ?_⟩
        exact ⟨.int _, H, I.tok _, ⟨_, rfl⟩, pst_dat hp (.int _)⟩
      · cases hF
    · cases hF
  · cases hF
end
end DL

/-! DL15: dicts that are made: {}, dict(pairs), dict(d), displays. -/
namespace DL
open L2 PySem PySem.Spec PyProof.Rows PySem.W

def mergeD {κ : Type} [DecidableEq κ] (kvs more : List (κ × D)) : List (κ × D) := more.foldl (fun acc kv => putD acc kv.1 kv.2) kvs
def pairsK : List D → Option (List (Key × D))
  | [] => some []
  | .tup [k, v] :: r => (toKey k).bind fun k => (pairsK r).bind fun q => some ((k, v) :: q)
  | _ => none
def pairsT : List D → Option (List (List Key × D))
  | [] => some []
  | .tup [.tup ks, v] :: r => (toKeys ks).bind fun k => (pairsT r).bind fun q => some ((k, v) :: q)
  | _ => none
def toNK : D → Option NK
  | .non => some none
  | d => (toKey d).map some
def pairsN : List D → Option (List (NK × D))
  | [] => some []
  | .tup [k, v] :: r => (toNK k).bind fun k => (pairsN r).bind fun q => some ((k, v) :: q)
  | _ => none
/-- dict(x); t: its keys are tuples -/
def dictF (t : Bool) : List D → Option SV
  | [.lst ds] => if ds.length ≤ sizeLine then if t = true then (pairsT ds).map fun kvs => .own (.mT (mergeD [] kvs)) else (match pairsK ds with
    | some kvs => some (.own (.mK (mergeD [] kvs)))
    | none => (pairsN ds).map fun kvs => .dat (.dN (mergeD [] kvs))) else none
  | [.dK kvs] => some (.own (.mK kvs))
  | _ => none
section
variable {K : KW} {H : Hp}
def PutRel {κ : Type} (K : KW) (H : Hp) (kv : List (κ × V)) (kvs : List (κ × D)) : Prop := kv.map (·.1) = kvs.map (·.1) ∧ Dvs K H (kv.map (·.2)) (kvs.map (·.2))
theorem merge_rel {κ : Type} [DecidableEq κ] : ∀ {kv : List (κ × V)} {kvs : List (κ × D)} {acc : List (κ × V)} {accD : List (κ × D)}, PutRel K H acc accD → PutRel K H kv kvs → PutRel K H (kv.foldl (fun a p => putK a p.1 p.2) acc) (kvs.foldl (fun a p => putD a p.1 p.2) accD)
  | [], [], _, _, h, _ => h
  | [], _ :: _, _, _, _, h => by have := h.1; simp at this
  | _ :: _, [], _, _, _, h => by have := h.1; simp at this
  | p :: r, q :: t, acc, accD, h, h2 => by
    obtain ⟨e1, e2⟩ := h2
    simp only [List.map_cons, List.cons.injEq] at e1 e2
    cases e2 with
    | cons d1 d2 =>
      rw [List.foldl_cons, List.foldl_cons]
      refine merge_rel ?_ ⟨e1.2, d2⟩
      have := put_rel (k := p.1) h.1 h.2 d1
      rw [e1.1] at this ⊢
      exact this
theorem pairsK_inv : ∀ {ds : List D} {kvs : List (Key × D)} {vs : List V}, pairsK ds = some kvs → Dvs K H vs ds → ∃ (ps : List Addr) (kv : List (Key × V)), vs = ps.map V.ref ∧ Paired (fun p kv => H p = some (.tup [kV kv.1, kv.2])) ps kv ∧ PutRel K H kv kvs
  | [], _, _, h, .nil => by
    cases h
    exact ⟨[], [], rfl, .nil, rfl, .nil⟩
  | d :: r, kvs, _, h, .cons h1 h2 => by
    unfold pairsK at h
    split at h
    · cases ‹d :: r = []›
    · rename_i k v r' e
      cases e
      simp only [Option.bind_eq_some_iff] at h
      obtain ⟨k', e1, q, e2, e3⟩ := h
      cases e3
      obtain ⟨ps, kv, rfl, hp, hr⟩ := pairsK_inv e2 h2
      cases h1 with
      | tup ha hs =>
        obtain ⟨x, y, rfl, hx, hy⟩ := dvs2 hs
        rw [dv_key e1 hx] at ha
        exact ⟨_ :: ps, (k', y) :: kv, rfl, .cons ha hp, by rw [List.map_cons, List.map_cons, hr.1], .cons hy hr.2⟩
    · cases h
theorem dv_nk {v : V} {d : D} {k : NK} (h : toNK d = some k) (hd : Dv K H v d) : v = nkV k := by
  cases hd <;> simp only [toNK, toKey, Option.map_some, Option.map_none] at h <;> cases h <;> rfl
theorem pairsN_inv : ∀ {ds : List D} {kvs : List (NK × D)} {vs : List V}, pairsN ds = some kvs → Dvs K H vs ds → ∃ (ps : List Addr) (kv : List (NK × V)), vs = ps.map V.ref ∧ Paired (fun p kv => H p = some (.tup [nkV kv.1, kv.2])) ps kv ∧ PutRel K H kv kvs
  | [], _, _, h, .nil => by
    cases h
    exact ⟨[], [], rfl, .nil, rfl, .nil⟩
  | d :: r, kvs, _, h, .cons h1 h2 => by
    unfold pairsN at h
    split at h
    · cases ‹d :: r = []›
    · rename_i k v r' e
      cases e
      simp only [Option.bind_eq_some_iff] at h
      obtain ⟨k', e1, q, e2, e3⟩ := h
      cases e3
      obtain ⟨ps, kv, rfl, hp, hr⟩ := pairsN_inv e2 h2
      cases h1 with
      | tup ha hs =>
        obtain ⟨x, y, rfl, hx, hy⟩ := dvs2 hs
        rw [dv_nk e1 hx] at ha
        exact ⟨_ :: ps, (k', y) :: kv, rfl, .cons ha hp, by rw [List.map_cons, List.map_cons, hr.1], .cons hy hr.2⟩
    · cases h
theorem pairsT_inv : ∀ {ds : List D} {kvs : List (List Key × D)} {vs : List V}, pairsT ds = some kvs → Dvs K H vs ds → ∃ (ps : List Addr) (kv : List (List Key × V)) (bs : List Addr), vs = ps.map V.ref ∧ Paired (fun p q => H p = some (.tup [.ref q.2, q.1.2]) ∧ H q.2 = some (.tup (q.1.1.map kV))) ps (kv.zip bs) ∧ kv.length = bs.length ∧ PutRel K H kv kvs
  | [], _, _, h, .nil => by
    cases h
    exact ⟨[], [], [], rfl, .nil, rfl, rfl, .nil⟩
  | d :: r, kvs, _, h, .cons h1 h2 => by
    unfold pairsT at h
    split at h
    · cases ‹d :: r = []›
    · rename_i k v r' e
      cases e
      simp only [Option.bind_eq_some_iff] at h
      obtain ⟨k', e1, q, e2, e3⟩ := h
      cases e3
      obtain ⟨ps, kv, bs, rfl, hp, hl, hr⟩ := pairsT_inv e2 h2
      cases h1 with
      | tup ha hs =>
        obtain ⟨x, y, rfl, hx, hy⟩ := dvs2 hs
        cases hx with
        | tup hb hk =>
          rw [dvs_keys e1 hk] at hb
          exact ⟨_ :: ps, (k', y) :: kv, _ :: bs, rfl, .cons ⟨ha, hb⟩ hp, by rw [List.length_cons, List.length_cons, hl], by rw [List.map_cons, List.map_cons, hr.1], .cons hy hr.2⟩
    · cases h
end
section
variable {X : Cx} {pins : List (Addr × Obj)} {σ : Sl} {H : Hp} {s : Shared}
theorem pst_mK {Q : VK} {kvs : List (Key × D)} {kv : List (Key × V)} (h : Pst (kw X) H Q (.own (.mK kvs))) (r : PutRel (kw X) H kv kvs) {p : Addr} (hp : H p = none) : Q (.ref p) (upd H p (.dK kv)) := by
  have sm := same_new (o := HO.dK kv) hp
  exact h _ _ sm ⟨p, rfl, hp, kv, upd_same, r.1, r.2.mono (Fz.of_same sm)⟩
theorem pst_mT {Q : VK} {kvs : List (List Key × D)} {kv : List (List Key × V)} (h : Pst (kw X) H Q (.own (.mT kvs))) (r : PutRel (kw X) H kv kvs) {p : Addr} (hp : H p = none) : Q (.ref p) (upd H p (.dT kv)) := by
  have sm := same_new (o := HO.dT kv) hp
  exact h _ _ sm ⟨p, rfl, hp, kv, upd_same, r.1, r.2.mono (Fz.of_same sm)⟩
/-- the pairs of a list, as the heap holds them -/
theorem pairs_raw (I : Inv X pins σ H s) : ∀ {ps : List Addr} {kv : List (List Key × V)} {bs : List Addr}, Paired (fun p q => H p = some (.tup [.ref q.2, q.1.2]) ∧ H q.2 = some (.tup (q.1.1.map kV))) ps (kv.zip bs) → kv.length = bs.length →
    ∃ xs : List (List Key × Addr × Value), KT H kv xs ∧ xs.length = ps.length ∧ ∀ (j : Nat) (k : List Key) (b : Addr) (v : Value), xs[j]? = some (k, b, v) → ∃ T, ps[j]? = some T ∧ PairAt s.heap T (.ref b) v
  | [], [], [], _, _ => ⟨[], .nil, rfl, fun j k b v e => by simp at e⟩
  | _, [], _ :: _, _, h => by simp at h
  | _, _ :: _, [], _, h => by simp at h
  | [], p :: kv, b :: bs, h, _ => by rw [List.zip_cons_cons] at h; cases h
  | _ :: _, [], [], h, _ => by rw [List.zip_nil_left] at h; cases h
  | T :: ps, p :: kv, b :: bs, h, hl => by
    rw [List.zip_cons_cons] at h
    cases h with
    | cons h1 h2 =>
      obtain ⟨xs, r1, r2, r3⟩ := pairs_raw I h2 (by simpa using hl)
      obtain ⟨its, rv, it, _⟩ := I.tuple (SqT.of h1.1)
      obtain ⟨u1, u2, rfl, q1, q2⟩ := vals2 rv
      cases q1
      refine ⟨(p.1, b, u2) :: xs, .cons ⟨rfl, h1.2, q2⟩ r1, by rw [List.length_cons, List.length_cons, r2], fun j k c v e => ?_⟩
      cases j with
      | zero =>
        simp at e
        obtain ⟨rfl, rfl, rfl⟩ := e
        exact ⟨T, rfl, .inl it⟩
      | succ j =>
        obtain ⟨T', e1, e2⟩ := r3 j k c v (by simpa using e)
        exact ⟨T', by simpa using e1, e2⟩
theorem kt_merge {H : Hp} : ∀ {kv : List (List Key × V)} {xs : List (List Key × Addr × Value)} {a : List (List Key × V)} {ys : List (List Key × Addr × Value)}, KT H kv xs → KT H a ys → KT H (kv.foldl (fun a p => putK a p.1 p.2) a) (storedAllH ys xs)
  | _, _, _, _, .nil, h => h
  | p :: kv, q :: xs, a, ys, .cons r t, h => by
    obtain ⟨r1, r2, r3⟩ := r
    unfold storedAllH
    rw [List.foldl_cons, List.foldl_cons]
    refine kt_merge t ?_
    rw [← r1]
    exact h.put p.1 r2 r3
theorem dt_new {w : World} {P : Program} {H : Hp} {h : Heap} {a : Addr} {kvs : List (List Key × V)} {xs : List (List Key × Addr × Value)} (z : kvs.length ≤ sizeLine) (hd : (a == sysModules) = false) (rel : KT H kvs xs) (dd : h.DictOfH (tupleKind (mixKind P w)) a xs) : ObjOk P w H h a (.dT kvs) := by
  obtain ⟨o, es, ep, h1, h2, h3, h4, _, h5⟩ := dd
  exact ⟨z, hd, xs, rel, o, es, ep, h1, h2, h3, h4, h5⟩
theorem pairsN_raw (I : Inv X pins σ H s) : ∀ {ps : List Addr} {kv : List (NK × V)}, Paired (fun p kv => H p = some (.tup [nkV kv.1, kv.2])) ps kv →
    ∃ xs : List (NK × Value × Value), Paired (fun (p : NK × V) (q : NK × Value × Value) => p.1 = q.1 ∧ nkIs q.1 q.2.1 = true ∧ RelV p.2 q.2.2) kv xs ∧ xs.length = ps.length ∧ ∀ (j : Nat) (k : NK) (u v : Value), xs[j]? = some (k, u, v) → ∃ T, ps[j]? = some T ∧ PairAt s.heap T u v
  | _, _, .nil => ⟨[], .nil, rfl, fun j k b v e => by simp at e⟩
  | T :: ps, p :: kv, .cons h1 h2 => by
    obtain ⟨xs, r1, r2, r3⟩ := pairsN_raw I h2
    obtain ⟨its, rv, it, _⟩ := I.tuple (SqT.of h1)
    obtain ⟨u1, u2, rfl, q1, q2⟩ := vals2 rv
    refine ⟨(p.1, u1, u2) :: xs, .cons ⟨rfl, nk_is q1, q2⟩ r1, by rw [List.length_cons, List.length_cons, r2], fun j k c v e => ?_⟩
    cases j with
    | zero =>
      simp at e
      obtain ⟨rfl, rfl, rfl⟩ := e
      exact ⟨T, rfl, .inl it⟩
    | succ j =>
      obtain ⟨T', e1, e2⟩ := r3 j k c v (by simpa using e)
      exact ⟨T', by simpa using e1, e2⟩
abbrev PrN {κ : Type} (kv : List (κ × V)) (vs : List (κ × Value)) : Prop := Paired (fun (p : κ × V) (q : κ × Value) => p.1 = q.1 ∧ RelV p.2 q.2) kv vs
theorem prn_any {κ : Type} [DecidableEq κ] {kv : List (κ × V)} {vs : List (κ × Value)} (r : PrN kv vs) (k : κ) : (kv.any fun z => decide (z.1 = k)) = vs.any fun z => decide (z.1 = k) := by
  induction r with
  | nil => rfl
  | cons h t ih => rw [List.any_cons, List.any_cons, ih, h.1]
theorem prn_set {κ : Type} [DecidableEq κ] {kv : List (κ × V)} {vs : List (κ × Value)} {v : V} {u : Value} (r : PrN kv vs) (k : κ) (h : RelV v u) : PrN (kv.map fun z => if z.1 = k then (z.1, v) else z) (vs.map fun z => if z.1 = k then (z.1, u) else z) := by
  induction r with
  | nil => exact .nil
  | @cons p q ps qs hp t ih =>
    rw [List.map_cons, List.map_cons]
    refine .cons ?_ ih
    by_cases e : p.1 = k
    · rw [if_pos e, if_pos (hp.1 ▸ e)]
      exact ⟨hp.1, h⟩
    · rw [if_neg e, if_neg (hp.1 ▸ e)]
      exact hp
theorem prn_put {κ : Type} [DecidableEq κ] {kv : List (κ × V)} {vs : List (κ × Value)} {v : V} {u : Value} (r : PrN kv vs) (k : κ) (h : RelV v u) : PrN (putK kv k v) (stored vs k u) := by
  unfold putK stored
  have e := prn_any r k
  by_cases q : (kv.any fun z => decide (z.1 = k)) = true
  · rw [if_pos (by first | exact q | simpa using q), if_pos (by rw [e] at q; first | exact q | simpa using q)]
    exact prn_set r k h
  · rw [if_neg (by first | exact q | simpa using q), if_neg (by rw [e] at q; first | exact q | simpa using q)]
    exact Paired.snoc r ⟨rfl, h⟩
theorem prn_merge {κ : Type} [DecidableEq κ] {more : List (κ × V)} {rs : List (κ × Value)} {kv : List (κ × V)} {vs : List (κ × Value)} (r : PrN more rs) (q : PrN kv vs) : PrN (more.foldl (fun a p => putK a p.1 p.2) kv) (merged vs rs) := by
  induction r generalizing kv vs with
  | nil => exact q
  | @cons p x ps xs h t ih =>
    have := prn_put q p.1 h.2
    rw [show stored vs p.1 x.2 = stored vs x.1 x.2 by rw [h.1]] at this
    exact ih this
theorem prd_get {α β : Type} {F : α → β → Prop} : ∀ {xs : List α} {ys : List β}, Paired F xs ys → ∀ {i : Nat} {y : β}, ys[i]? = some y → ∃ x, xs[i]? = some x ∧ F x y
  | _, _, .nil, i, y, h => by simp at h
  | _, _, .cons r t, 0, y, h => by
    simp at h
    subst h
    exact ⟨_, rfl, r⟩
  | _, _, .cons r t, i + 1, y, h => by
    obtain ⟨x, e1, e2⟩ := prd_get t (i := i) (by simpa using h)
    exact ⟨x, by simpa using e1, e2⟩
theorem prd_map {α β γ : Type} {F : α → β → Prop} {G : α → γ → Prop} {f : β → γ} (h : ∀ x y, F x y → G x (f y)) : ∀ {xs : List α} {ys : List β}, Paired F xs ys → Paired G xs (ys.map f)
  | _, _, .nil => .nil
  | _, _, .cons r t => .cons (h _ _ r) (prd_map h t)
theorem fold_len {κ : Type} [DecidableEq κ] : ∀ (l a : List (κ × V)), (l.foldl (fun a p => putK a p.1 p.2) a).length ≤ a.length + l.length
  | [], a => by simp
  | p :: l, a => by
    have q1 := fold_len l (putK a p.1 p.2)
    have q2 := length_putK a p.1 p.2
    simp only [List.foldl_cons, List.length_cons]
    omega
theorem c_dict (t : Bool) (hc : X.calm = true) (hu : X.A.units + 64 < cLine) : CallR X (.type "dict") (gN (kw X) (dictF t)) := by
  intro pins s σ H xs us Q I r h
  obtain ⟨ds, z, hd, hF, hp⟩ := h
  unfold dictF at hF
  split at hF
  · rename_i ds
    split at hF
    · rename_i sz
      obtain ⟨x, rfl, a, vs, rfl, h1, h2⟩ := rvs1 hd
      split at hF
      · simp only [Option.map_eq_some_iff] at hF
        obtain ⟨kvs, e, rfl⟩ := hF
        obtain ⟨ps, kv, bs, rfl, hpr, hl, rel⟩ := pairsT_inv e h2
        obtain ⟨ys, kt, yl, ya⟩ := pairs_raw I hpr hl
        obtain ⟨u, rfl, rx⟩ := vals1 r
        cases rx
        obtain ⟨_, its, n, rv, _, ho⟩ := inv_lst I h1
        have ei := refs_at rv
        subst ei
        have lps : ps.length = ds.length := by have := h2.length; rw [List.length_map] at this; exact this
        have P := PairArg.list (prog := X.prog) (w := X.w) a (ps.map Value.ref).toArray (fun j => ps.getD j 0) (ys.map fun y => (Value.ref y.2.1, y.2.2))
        have key : ∀ y ∈ ys, (tupleKind (mixKind X.prog X.w)).is s.heap y.1 y.2.1 := fun y hy => by
          obtain ⟨j, hj⟩ := List.getElem?_of_mem hy
          obtain ⟨p, _, f1, f2, _⟩ := kt_at kt hj
          rw [← f1]
          exact key_of I.hok f2
        refine call_dict_pairsH (knd := tupleKind (mixKind X.prog X.w)) (ps := ys) P (I.ok.hd hc) (tupleKind_room_in1 (A := X.A.in1) (by show X.A.units + 1 + 1 < cLine; omega)) ⟨⟨_, n, ho, rfl, rfl, rfl⟩, ?_, ?_⟩ ⟨by rw [List.length_map], ?_⟩ ?_ (by rw [List.length_map, yl, lps]; exact sz) fun h' tk dd k => ?_
        · rw [List.size_toArray, List.length_map, List.length_map, yl]
        · intro j k v ej
          rw [List.getElem?_map, Option.map_eq_some_iff] at ej
          obtain ⟨⟨k0, b, v0⟩, e1, e2⟩ := ej
          cases e2
          obtain ⟨T, f1, f2⟩ := ya j k0 b v0 e1
          have f3 : ps.getD j 0 = T := by rw [List.getD_eq_getElem?_getD, f1]; rfl
          refine ⟨?_, by show PairAt s.heap (ps.getD j 0) _ _; rw [f3]; exact f2⟩
          show (List.map Value.ref ps).toArray[j]? = some (Value.ref (ps.getD j 0))
          rw [f3]
          simp [f1]
        · intro i key v e1
          have e1 : (ys.map fun y => (Value.ref y.2.1, y.2.2))[i]? = some (key, v) := e1
          rw [List.getElem?_map, Option.map_eq_some_iff] at e1
          obtain ⟨⟨k0, b, v0⟩, e2, e3⟩ := e1
          cases e3
          exact ⟨k0, b, e2, rfl⟩
        · intro h' hk y hy
          exact tupleKind_stays.stays (fun b o vs n e _ => hk b o (Nat.ne_of_lt (Heap.lt_size e)) (fun z => nomatch z) e) (key y hy)
        · have hn := I.hok.fresh (Nat.le_refl s.heap.objs.size)
          have k' : ∀ b o, s.heap.get? b = some o → h'.get? b = some o := fun b o e => k b o (fun z => nomatch z) e
          have km := kt_merge kt (.nil : KT H [] [])
          have sm := same_new (o := HO.dT (kv.foldl (fun a p => putK a p.1 p.2) [])) hn
          have mz : (kv.foldl (fun a p => putK a p.1 p.2) []).length ≤ sizeLine := by
            have len : ∀ (l : List (List Key × V)) (a : List (List Key × V)), (l.foldl (fun a p => putK a p.1 p.2) a).length ≤ a.length + l.length := by
              intro l
              induction l with
              | nil => intro a; simp
              | cons p l ih =>
                intro a
                have q1 := ih (putK a p.1 p.2)
                have q2 := length_putK a p.1 p.2
                simp only [List.foldl_cons, List.length_cons]
                omega
            have q1 := len kv []
            have q2 : kv.length = ys.length := Paired.length kt
            simp only [List.length_nil] at q1
            omega
          refine ⟨.ref s.heap.objs.size, _, I.laid (t' := tk) k' (Nat.le_refl _) (dt_new mz (beq_eq_false_iff_ne.mpr (Nat.ne_of_gt I.big)) (km.keeps fun b ys e => sm b _ e) dd), rfl, pst_mT hp (merge_rel (acc := []) (accD := []) ⟨rfl, .nil⟩ rel) hn⟩
      · split at hF
        · rename_i kvs e
          cases hF
          obtain ⟨ps, kv, rfl, hpr, rel⟩ := pairsK_inv e h2
          exact call_dictP hc pins s σ H _ us Q I r ⟨a, ps, kv, rfl, .inl h1, Paired.mapP hpr fun _ _ q => SqT.of q, fun p hn => pst_mK hp (merge_rel (acc := []) (accD := []) ⟨rfl, .nil⟩ rel) hn⟩
        simp only [Option.map_eq_some_iff] at hF
        obtain ⟨kvs, e, rfl⟩ := hF
        obtain ⟨ps, kv, rfl, hpr, rel⟩ := pairsN_inv e h2
        obtain ⟨ys, kt, yl, ya⟩ := pairsN_raw I hpr
        obtain ⟨u, rfl, rx⟩ := vals1 r
        cases rx
        obtain ⟨_, its, n, rv, _, ho⟩ := inv_lst I h1
        have ei := refs_at rv
        subst ei
        have lps : ps.length = ds.length := by have := h2.length; rw [List.length_map] at this; exact this
        have P := PairArg.list (prog := X.prog) (w := X.w) a (ps.map Value.ref).toArray (fun j => ps.getD j 0) (ys.map fun y => (y.2.1, y.2.2))
        refine PySem.call_dict_pairs (knd := nkKind X.prog X.w) (kvs := ys.map fun y => (y.1, y.2.2)) P (I.ok.hd hc) ⟨⟨_, n, ho, rfl, rfl, rfl⟩, ?_, ?_⟩ ⟨by rw [List.length_map, List.length_map], ?_⟩ (by rw [List.length_map, yl, lps]; exact sz) fun h' tk dd k => ?_
        · rw [List.size_toArray, List.length_map, List.length_map, yl]
        · intro j k v ej
          rw [List.getElem?_map, Option.map_eq_some_iff] at ej
          obtain ⟨⟨k0, b, v0⟩, e1, e2⟩ := ej
          cases e2
          obtain ⟨T, f1, f2⟩ := ya j k0 b v0 e1
          have f3 : ps.getD j 0 = T := by rw [List.getD_eq_getElem?_getD, f1]; rfl
          refine ⟨?_, by show PairAt s.heap (ps.getD j 0) _ _; rw [f3]; exact f2⟩
          show (List.map Value.ref ps).toArray[j]? = some (Value.ref (ps.getD j 0))
          rw [f3]
          simp [f1]
        · intro i key v e1
          have e1 : (ys.map fun y => (y.2.1, y.2.2))[i]? = some (key, v) := e1
          rw [List.getElem?_map, Option.map_eq_some_iff] at e1
          obtain ⟨⟨k0, b, v0⟩, e2, e3⟩ := e1
          cases e3
          obtain ⟨p0, _, hp0⟩ := prd_get kt e2
          exact ⟨k0, by rw [List.getElem?_map, e2]; rfl, hp0.2.1⟩
        · have hn := I.hok.fresh (Nat.le_refl s.heap.objs.size)
          have k' : ∀ b o, s.heap.get? b = some o → h'.get? b = some o := fun b o e => k b o (fun z => nomatch z) e
          have kv' : PrN kv (ys.map fun y => (y.1, y.2.2)) := prd_map (fun p y h => ⟨h.1, h.2.2⟩) kt
          have km := prn_merge kv' (.nil : PrN [] [])
          obtain ⟨o, es, ep, g1, g2, g3, g4, g5, g6⟩ := dd
          have mz := fold_len kv []
          have ly : kv.length = ys.length := Paired.length kt
          rw [List.length_nil] at mz
          have dn : DicN X.prog X.w o (kv.foldl (fun a p => putK a p.1 p.2) []) := ⟨g2, ⟨es, ep, _, g3, by have := g5.length; rw [Array.length_toList] at this; rw [this]; exact (Paired.length km).symm, g4, g5, g6, km⟩, by omega⟩
          have m := merge_rel (K := kw X) (H := H) (acc := []) (accD := []) ⟨rfl, .nil⟩ rel
          have sm := same_new (o := HO.frz o (.ext fun h => h.get? s.heap.objs.size = some o)) hn
          exact ⟨.ref s.heap.objs.size, _, I.laid (t' := tk) (o := .frz o (.ext fun h => h.get? s.heap.objs.size = some o)) k' (Nat.le_refl _) (frz_new g1), rfl, hp _ _ sm (.dN upd_same dn (beq_eq_false_iff_ne.mpr (Nat.ne_of_gt I.big)) m.1 (m.2.mono (Fz.of_same sm)))⟩
    · cases hF
  · cases hF
    obtain ⟨x, rfl, a, kv, rfl, h1, h2, h3⟩ := rvs1 hd
    obtain ⟨u, rfl, rx⟩ := vals1 r
    cases rx
    exact d_copyOf I h1 fun p s' hn I' => ⟨.ref p, _, I', rfl, pst_mK hp ⟨h2, h3⟩ hn⟩
  · cases hF
end
/-- {} -/
def dnewF (t : Bool) : FE := fun ρ => some (.own (if t = true then .mT [] else .mK []), ρ)
section
variable {X : Cx} {R : List Nat} {pos : Pos}
theorem de_dnew (t : Bool) : DE X R (.Dict [] [] pos) (dnewF t) := by
  cases t
  · refine pe_imp pe_dnewK fun σ H Q hq p hn => ?_
    obtain ⟨ρ, r', ρ', ok, q, k⟩ := hq
    cases q
    have sm := same_new (o := HO.dK []) hn
    exact k (.ref p) _ (Kp.same sm) (ok.same sm) (Fr.rvOk (z := .own (.mK [])) ⟨p, rfl, hn, [], upd_same, rfl, .nil⟩ ok fun _ h => h)
  · refine pe_imp pe_dnewT fun σ H Q hq p hn => ?_
    obtain ⟨ρ, r', ρ', ok, q, k⟩ := hq
    cases q
    have sm := same_new (o := HO.dT []) hn
    exact k (.ref p) _ (Kp.same sm) (ok.same sm) (Fr.rvOk (z := .own (.mT [])) ⟨p, rfl, hn, [], upd_same, rfl, .nil⟩ ok fun _ h => h)
end
end DL

/-! DL16: comprehensions of dicts and sets. -/
namespace DL
open L2 PySem PySem.Spec PyProof.Rows PySem.W

def compA {α : Type} (vs : List Nat) (g : FG) (t : FT) (step : α → EnvD → Option (α × EnvD)) : List D → α → EnvD → Option (α × EnvD)
  | [], a, ρ => some (a, ρ)
  | d :: ds, a, ρ => (g d ρ).bind fun ρ1 => (t ρ1).bind fun b => if b.1 = true then (step a b.2).bind fun p => compA vs g t step ds p.1 (wipeD p.2 vs) else compA vs g t step ds a (wipeD b.2 vs)
def tComp (wi : TI) (g : TG) (tt : TT) (body : Addr → Sl → Hp → (Hp → Prop) → Prop) (vs : List Nat) (ini : Addr → HO) : TE := fun σ H Q => wi σ H fun J H1 => ∀ D, H1 D = none → ∃ W : Nat → Nat → Hp → Prop, (∃ m, W 0 m (upd H1 D (ini D))) ∧ ∀ i m H, W i m H →
  (J.stop i H ∧ Q (.ref D) H) ∨ (J.go i H ∧ ∃ Nx : Hp → Prop, (∀ H', Nx H' → ∃ m', m' < m ∧ W (i + 1) m' H') ∧ ∀ x H', J.yld i H x H' → g x (wipe σ vs) H' fun σ2 H2 => wipe σ2 vs = wipe σ vs ∧ tt σ2 H2 fun b H3 => if b = true then body D σ2 H3 Nx else Nx H3)
section
variable {K : KW} {R : List Nat} {α : Type}
theorem comp_red {At : Hp → Addr → α → Prop} (hsome : ∀ H D a, At H D a → ∃ u, H D = some u ∧ ¬ Froz (some u)) (hmono : ∀ H H' D a, Fz H H' → H' D = H D → At H D a → At H' D a) {body : Addr → Sl → Hp → (Hp → Prop) → Prop} {step : α → EnvD → Option (α × EnvD)} {ini : Addr → HO} {a0 : α}
    (hini : ∀ H D, H D = none → At (upd H D (ini D)) D a0) (hbody : ∀ D σ2 H3 ρb a a' ρe Nx, EnvOk K H3 σ2 ρb → At H3 D a → (∀ j, ¬ OwnS σ2 ρb j D) → step a ρb = some (a', ρe) → (∀ H4 u, Kp R σ2 ρb H3 ρe H4 → EnvOk K H4 σ2 ρe → At (upd H4 D u) D a' → Nx (upd H4 D u)) → body D σ2 H3 Nx)
    {vs : List Nat} {fi : FI} {g : FG} {t : FT} {σ : Sl} {H : Hp} {Q : VK} {ρ ρ1 ρ2 : EnvD} {ds : List D} {aF : α} (okE : EnvOk K H σ ρ) (q1 : fi ρ = some (ds, ρ1)) (hn : noneAt ρ1 vs = true) (q3 : compA vs g t step ds a0 ρ1 = some (aF, ρ2))
    (k : ∀ D H', Kp R σ ρ H ρ2 H' → EnvOk K H' σ ρ2 → H D = none → (∀ j, ¬ OwnS σ ρ2 j D) → At H' D aF → Q (.ref D) H') : tComp (tI K R fi) (tG K vs g) (tT K R t) body vs ini σ H Q := by
  replace hn := noneAt_iff.mp hn
  refine ⟨ρ, ds, ρ1, okE, q1, fun J H1 k1 ok1 gs => ?_⟩
  intro D hD
  have lenρ : ∀ i ∈ vs, i < ρ1.length := fun i hi => (List.getElem?_eq_some_iff.mp (hn i hi)).1
  refine ⟨fun i m H' => ∃ ρi acc, m = ds.length - i ∧ i ≤ ds.length ∧ EnvOk K H' (wipe σ vs) ρi ∧ (∀ j ∈ vs, ρi[j]? = some none) ∧ Kp R (wipe σ vs) ρ1 H1 ρi H' ∧ At H' D acc ∧ compA vs g t step (ds.drop i) acc ρi = some (aF, ρ2), ⟨_, ρ1, a0, rfl, Nat.zero_le _, ?_, hn, ?_, hini H1 D hD, q3⟩, fun i m H2 hW => ?_⟩
  · exact (ok1.same (same_new hD)).block hn
  · exact Kp.same (same_new hD)
  · obtain ⟨ρi, acc, rfl, hle, ok2, hn2, k2, eD, q5⟩ := hW
    have ok1b := ok1.block hn (vs := vs)
    have fz2 := k2.fz ok1b
    have go := gs H2 fz2 i
    have nD : ∀ {j : Nat}, ¬ OwnS (wipe σ vs) ρi j D := fun {j} hj => by
      have h1 := (k2.ownS hj)
      obtain ⟨y, _, hy⟩ := ok1b.ownAt h1
      obtain ⟨u, eu, _⟩ := hy.some
      rw [hD] at eu; cases eu
    by_cases hlt : i < ds.length
    · have ei : ds[i]? = some ds[i] := List.getElem?_eq_getElem hlt
      obtain ⟨g1, g2⟩ := go.2 _ ei
      rw [List.drop_eq_getElem_cons hlt] at q5
      simp only [compA, Option.bind_eq_some_iff] at q5
      obtain ⟨ρa, q6, ⟨b, ρb⟩, q7, q8⟩ := q5
      refine .inr ⟨g1, fun H5 => ∃ ρi acc, EnvOk K H5 (wipe σ vs) ρi ∧ (∀ j ∈ vs, ρi[j]? = some none) ∧ Kp R (wipe σ vs) ρ1 H1 ρi H5 ∧ At H5 D acc ∧ compA vs g t step (ds.drop (i + 1)) acc ρi = some (aF, ρ2), fun H5 hN => ?_, fun x H3 hy => ?_⟩
      · obtain ⟨ρi, acc, h1, h2, h3, h4, h5⟩ := hN
        exact ⟨ds.length - (i + 1), by omega, ρi, acc, rfl, hlt, h1, h2, h3, h4, h5⟩
      · obtain ⟨sm, hx⟩ := g2 x H3 hy
        have ok3 := ok2.same sm
        refine ⟨ρi, ds[i], ρa, ok3, hx, q6, fun σ4 ok4 a4 => ?_⟩
        refine ⟨wipe_ast a4, ρa, b, ρb, ok4, q7, fun H4 k4 okb => ?_⟩
        obtain ⟨u0, eu0, nf0⟩ := hsome _ _ _ eD
        have eD3 : H3 D = some u0 := sm D _ eu0
        have nD4 : ∀ {j : Nat}, ¬ OwnS σ4 ρa j D := fun {j} hj => by
          obtain ⟨⟨x, h1⟩, h2⟩ := hj
          by_cases hv : j ∈ vs
          · exact a4.dat j hv x h1
          · rw [(a4.off j hv).2] at h1
            rw [(a4.off j hv).1] at h2
            exact nD ⟨⟨x, h1⟩, h2⟩
        have eD4 : H4 D = some u0 := k4.obj D _ eD3 fun j hj => nD4 hj
        have lenb : ∀ {ρz : EnvD} {σz : Sl} {Hz : Hp}, EnvOk K Hz σz ρz → σz.length = σ.length → ∀ j ∈ vs, (wipeD ρz vs)[j]? = some none := fun {ρz σz Hz} e el j hj => wipeD_none hj (by
          have h1 := lenρ j hj
          have h2 := ok1.len
          have h3 := e.len
          omega)
        have l4 : σ4.length = σ.length := by rw [a4.len, wipe_length]
        have fzA : Fz H2 H4 := (Fz.of_same sm).trans (k4.fz ok4)
        have at4 : At H4 D acc := hmono H2 H4 D acc fzA (by rw [eD4, eu0]) eD
        dsimp only
        by_cases hb : b = true
        · rw [if_pos hb] at q8 ⊢
          simp only [Option.bind_eq_some_iff] at q8
          obtain ⟨⟨acc', ρe⟩, q9, q10⟩ := q8
          refine hbody D σ4 H4 ρb acc acc' ρe _ okb at4 (fun j hj => nD4 (k4.ownS hj)) q9 fun H5 u k5 ok5 at5 => ?_
          have eD5 : H5 D = some u0 := k5.obj D _ eD4 fun j hj => nD4 (k4.ownS hj)
          have fz5 : Fz H2 H5 := fzA.trans (k5.fz okb)
          have fzD := upd_own_fz (o := u) eD5 nf0
          have okw : EnvOk K H5 (wipe σ vs) (wipeD ρe vs) := by
            have := ok5.wipe (vs := vs)
            rw [wipe_ast a4] at this
            exact this
          have kt := kp_turn hn2 a4 (k4.trans k5)
          have kwq : Kp R (wipe σ vs) ρ1 H1 (wipeD ρe vs) H5 := (k2.trans (Kp.same sm)).trans kt
          have nD5 : ∀ {j : Nat}, ¬ OwnS (wipe σ vs) (wipeD ρe vs) j D := fun {j} hj => nD (kt.ownS hj)
          refine ⟨wipeD ρe vs, acc', ?_, lenb ok5 l4, ?_, at5, q10⟩
          · refine ⟨okw.len, fun j z e => ?_, okw.sep⟩
            obtain ⟨w, e1, hw⟩ := okw.at' j z e
            refine ⟨w, e1, ?_⟩
            cases z with
            | dat d => exact Dv.mono fzD hw
            | own z =>
              obtain ⟨c, rfl, hc⟩ := hw
              have hne : c ≠ D := fun z' => nD5 (j := j) ⟨⟨z, e⟩, by rw [← z']; exact e1⟩
              exact ⟨c, rfl, hc.mono fzD (upd_ne hne)⟩
          · refine ⟨fun c o e n => ?_, fun c e => ?_, kwq.own, kwq.ref, kwq.full⟩
            · rw [upd_ne (ne_of_none e hD)]
              exact kwq.obj c o e n
            · by_cases hc : c = D
              · rw [hc]; exact hD
              · rw [upd_ne hc] at e
                exact kwq.trk c e
        · rw [if_neg hb] at q8 ⊢
          have okw : EnvOk K H4 (wipe σ vs) (wipeD ρb vs) := by
            have := okb.wipe (vs := vs)
            rw [wipe_ast a4] at this
            exact this
          exact ⟨wipeD ρb vs, acc, okw, lenb okb l4, (k2.trans (Kp.same sm)).trans (kp_turn hn2 a4 k4), at4, q8⟩
    · rw [List.drop_of_length_le (by omega)] at q5
      cases q5
      refine .inl ⟨go.1 (by omega), ?_⟩
      have okF : EnvOk K H2 σ ρ2 := ok2.unblock hn2
      exact k D H2 (k1.trans (kp_unblock hn k2)) okF (k1.trk D hD) (fun j hj => nD ((ownS_block hn2).mpr hj)) eD
end
/-! ### {k: v for ..} -/
def stepK (fk fv : FE) : List (Key × D) → EnvD → Option (List (Key × D) × EnvD) := fun kvs ρ => (fk ρ).bind fun p => match p.1 with
  | .dat k => (fv p.2).bind fun q => match q.1 with
    | .dat v => (toKey k).bind fun k => if kvs.length < sizeLine then some (putD kvs k v, q.2) else none
    | _ => none
  | _ => none
def dcF (vs : List Nat) (fi : FI) (g : FG) (t : FT) (fk fv : FE) : FE := fun ρ => (fi ρ).bind fun p => if noneAt p.2 vs = true then (compA vs g t (stepK fk fv) p.1 [] p.2).bind fun q => some (.own (.mK q.1), q.2) else none
section
variable {X : Cx} {R : List Nat} {kx vx tg iter : Expr} {ifs : List Expr} {scope : Scope} {own : List (Str × Nat)} {pos : Pos}
theorem dc_red {vs : List Nat} {fi : FI} {g : FG} {t : FT} {fk fv : FE} {σ : Sl} {H : Hp} {Q : VK} (hq : tE (kw X) R (dcF vs fi g t fk fv) σ H Q) : tDc (tI (kw X) R fi) (tG (kw X) vs g) (tT (kw X) R t) (tE (kw X) R fk) (tE (kw X) R fv) vs σ H Q := by
  obtain ⟨ρ, r', ρ', okE, q, k⟩ := hq
  simp only [dcF, Option.bind_eq_some_iff] at q
  obtain ⟨⟨ds, ρ1⟩, q1, q2⟩ := q
  split at q2
  · rename_i hn
    simp only [Option.bind_eq_some_iff] at q2
    obtain ⟨⟨kvs, ρ2⟩, q3, q4⟩ := q2
    cases q4
    refine comp_red (At := fun H D a => OwnAt (kw X) H D (.mK a)) (body := fun D σ2 H3 Nx => tE (kw X) R fk σ2 H3 fun y H4 => tE (kw X) R fv σ2 H4 fun z H5 => ∃ kvs k, y = kV k ∧ H5 D = some (.dK kvs) ∧ kvs.length < sizeLine ∧ Nx (upd H5 D (.dK (putK kvs k z)))) (ini := fun _ => .dK [])
      (fun H D a h => let ⟨u, e, _, nf⟩ := h.some; ⟨u, e, nf⟩) (fun H H' D a f e h => h.mono f e) (fun H D hD => ⟨[], upd_same, rfl, .nil⟩) (fun D σ2 H3 ρb a a' ρe Nx ok3 at3 nD q5 kN => ?_) okE q1 hn q3 fun D H' k1 ok1 hD nD at1 => k (.ref D) H' k1 ok1 ⟨D, rfl, hD, nD, at1⟩
    simp only [stepK, Option.bind_eq_some_iff] at q5
    obtain ⟨⟨rk, ρk⟩, q6, q7⟩ := q5
    split at q7
    · rename_i dk erk
      obtain rfl : rk = .dat dk := erk
      simp only [Option.bind_eq_some_iff] at q7
      obtain ⟨⟨rv, ρv⟩, q8, q9⟩ := q7
      split at q9
      · rename_i dv erv
        obtain rfl : rv = .dat dv := erv
        simp only [Option.bind_eq_some_iff] at q9
        obtain ⟨kk, q10, q11⟩ := q9
        split at q11
        · rename_i sz
          cases q11
          refine ⟨ρb, _, ρk, ok3, q6, fun y H4 k4 ok4 o4 => ⟨ρk, _, _, ok4, q8, fun z H5 k5 ok5 o5 => ?_⟩⟩
          obtain ⟨kv, e1, e2, e3⟩ := at3
          have e4 : H4 D = some (.dK kv) := k4.obj D _ e1 fun j hj => nD j hj
          have e5 : H5 D = some (.dK kv) := k5.obj D _ e4 fun j hj => nD j (k4.ownS hj)
          have fz := (k4.trans k5).fz ok3
          have fzD := upd_own_fz (o := .dK (putK kv kk z)) e5 id
          obtain ⟨p1, p2⟩ := put_rel (k := kk) e2 (e3.mono fz) o5
          refine ⟨kv, kk, dv_key q10 (Dv.mono (k5.fz ok4) o4), e5, by rw [show kv.length = _ by simpa using congrArg List.length e2]; exact sz, kN H5 _ (k4.trans k5) ok5 ⟨_, upd_same, p1, p2.mono fzD⟩⟩
        · cases q11
      · cases q9
    · cases q7
  · cases q2
theorem de_dc {fi : FI} {g : FG} {t : FT} {fk fv : FE} (hc : X.calm = true) (hN : X.N.Nodup) (hi : DI X R tg iter fi) (ok : BlkOk X.N X.env.scope scope own)
    (hg : ∀ (s : Shared) (H : Hp) (C : Addr) (cl : List (Str × Addr)) (fp : List Addr), PG (X.blk s H scope (compEnvC scope cl C X.env) fp) tg (tG (kw X) (own.map (·.2)) g))
    (ht : ∀ (s : Shared) (H : Hp) (C : Addr) (cl : List (Str × Addr)) (fp : List Addr), PTs (X.blk s H scope (compEnvC scope cl C X.env) fp) ifs (tT (kw X) R t))
    (hk : ∀ (s : Shared) (H : Hp) (C : Addr) (cl : List (Str × Addr)) (fp : List Addr), PE (X.blk s H scope (compEnvC scope cl C X.env) fp) kx (tE (kw X) R fk))
    (he : ∀ (s : Shared) (H : Hp) (C : Addr) (cl : List (Str × Addr)) (fp : List Addr), PE (X.blk s H scope (compEnvC scope cl C X.env) fp) vx (tE (kw X) R fv))
    (hs : ∀ x, foldedSetIterable iter X.env x = pure x := by intro _; rfl) : DE X R (.DictComp kx vx [⟨tg, iter, ifs, 0⟩] scope pos) (dcF (own.map (·.2)) fi g t fk fv) :=
  pe_imp (pe_dc hc hN hi ok hg ht hk he hs) fun σ H Q hq => dc_red hq
end
end DL

/-! DL17: {x for ..}, texts. -/
namespace DL
open L2 PySem PySem.Spec PyProof.Rows PySem.W

/-- a set of texts that is made: the texts l -/
def TxO (w : World) (a : Addr) (l : List Str) : HO := .ext fun h => TxSet w h a l
theorem txo_ok {w : World} {P : Program} {H : Hp} {h : Heap} {a : Addr} {l : List Str} (R : TxSet w h a l) : ObjOk P w H h a (TxO w a l) := by
  have ⟨o, _, _, _, ho, _⟩ := R
  exact ⟨R, ⟨o, ho⟩, fun h1 h2 p k => TxSet.at p k⟩
section
variable {X : Cx}
theorem txo_add {pins : List (Addr × Obj)} {σ : Sl} {H : Hp} {s : Shared} {E : Value → Shared → Prop} {D : Addr} {l : List Str} {y : Str} {u : Tok} {Q : Value → Shared → Prop} (I : Inv X pins σ H s) (hD : H D = some (TxO X.w D l)) (room : l.length + 1 < scanBound)
    (h : ∀ s', Inv X pins σ (upd H D (TxO X.w D (addS l y))) s' → Q .none s') : wpAny (model X.prog X.w) X.A (call (.builtin "set.add") [.ref D, .str y u]) Q E s := by
  have R : TxSet X.w s.heap D l := (I.hok D _ hD).1
  have ⟨o, es, ep, t, ho, hx, _⟩ := R
  refine wpAny_call_entry PySem.F.slot_set_add ⟨o, ho, hx.1⟩ PySem.F.entry_set_add ?_ (PySem.F.args_set_add_2 _ _)
  unfold Builtin.«set.add» Builtin.Frozenset.oneOther
  simp only [List.isEmpty_nil, bind_assoc]
  unfold Builtin.Frozenset.addrOf setAdd
  refine wpAny_bind (wpAny_pure ?_)
  try dsimp only
  refine wpAny_bind (wpAny_pure ?_)
  try dsimp only
  refine wpAny_bind (wpAny_holding (wpAny_bind ((PySem.strKind X.prog X.w).pyHash (is_sk.mpr rfl) ?_)))
  refine txs_add (s := { s with toks := s.toks + 1 }) R room fun h' b sb R2 => ?_
  have he : ∃ q, h'.get? D = some q := let ⟨q, _, _, _, hq, _⟩ := R2; ⟨q, hq⟩
  show wpAny _ _ (ret Value.none) _ _ _
  exact wpAny_pure ⟨_, rfl, h _ (I.write (e := D) (t' := s.toks + 1) (by rw [hD]; trivial) (.inl rfl) (fun c q hc e => (sb.2 c hc).trans e) he (txo_ok R2))⟩
/-- the body of one turn -/
def bodyS (w : World) (te : TE) : Addr → Sl → Hp → (Hp → Prop) → Prop := fun D σ2 H3 Nx => te σ2 H3 fun y H4 => ∃ (k : Str) (l : List Str), y = .str k ∧ H4 D = some (TxO w D l) ∧ l.length + 1 < scanBound ∧ Nx (upd H4 D (TxO w D (addS l k)))
theorem txc_core {pins : List (Addr × Obj)} {s : Shared} {σ : Sl} {H : Hp} {Q : VK} {elt tg iter : Expr} {ifs : List Expr} {scope : Scope} {own : List (Str × Nat)} {pos pos' : Pos} {wi : TI} {g : TG} {tt : TT} {te : TE} {use : Option (Value → Sem Unit)} {Qf : Value → Shared → Prop} (hc : X.calm = true) (hN : X.N.Nodup) (I : Inv X pins σ H s) (hi : PI X tg iter wi)
    (ok : BlkOk X.N X.env.scope scope own) (hg : ∀ (s : Shared) (H : Hp) (C : Addr) (cl : List (Str × Addr)) (fp : List Addr), PG (X.blk s H scope (compEnvC scope cl C X.env) fp) tg g)
    (ht : ∀ (s : Shared) (H : Hp) (C : Addr) (cl : List (Str × Addr)) (fp : List Addr), PTs (X.blk s H scope (compEnvC scope cl C X.env) fp) ifs tt) (he : ∀ (s : Shared) (H : Hp) (C : Addr) (cl : List (Str × Addr)) (fp : List Addr), PE (X.blk s H scope (compEnvC scope cl C X.env) fp) elt te)
    (hs : ∀ x, foldedSetIterable iter X.env x = pure x) (h : tComp wi g tt (bodyS X.w te) (own.map (·.2)) (fun D => TxO X.w D []) σ H Q)
    (hRR : ∀ D C s' m H', Inv X pins σ H' s' → Q (.ref D) H' → s'.heap.Ns C m → FpOk X pins H' C → compPost (model X.prog X.w) X.A X.xe use Qf (.ref D) C (.ok .next) s') :
    wpAny (model X.prog X.w) X.A (comprehension (.SetComp elt [⟨tg, iter, ifs, 0⟩] scope pos) scope X.env pos' (newSet (.type "set")) false (eval iter X.env) use) Qf X.xe s := by
  have hfr : ∀ y ∈ scope.names, y.2 = .free → ∃ c, X.env.cells.lookup y.1 = some c := fun y hy e => (ok.free y hy e).elim (fun q => I.ok.has _ (.inl q)) fun q => I.ok.has _ (.inr q)
  refine wpAny_comprehension_free rfl hs (closure_ok hfr) ok.kind (fun y hy e => by rw [ok.uniq y hy, e]) (thn (hi.run pins s σ H _ I h) fun xv s1 hx => thn hx fun itv s2 h2 => ?_)
  obtain ⟨it, fp, tn, J, H2, e, I2, T, st2, f2, q⟩ := h2
  subst e
  refine PpSet.newSet_ok (newEnv_comp ?_)
  generalize hoS : ({ cls := .type "set", dict := none, data := .set #[] 0 (.fresh 0 0 (!X.w.params.followText "set-order")) } : Obj) = oS
  have hfre : oS.isFreed = false := by rw [← hoS]; rfl
  generalize hD : s2.heap.objs.size = D
  have hDn : H2 D = none := I2.hok.fresh (Nat.le_of_eq hD)
  obtain ⟨W, ⟨m0, w0⟩, turn⟩ := q D hDn
  generalize hs3 : ({ s2 with heap := s2.heap.push oS } : Shared) = s3
  have h3 : s3.heap = s2.heap.push oS := by rw [← hs3]
  have gS : (s2.heap.push oS).get? D = some oS := by rw [← hD]; exact Heap.get?_push_size _ hfre
  have I3 : Inv X pins σ (upd H2 D (TxO X.w D [])) s3 := by
    rw [← hs3]
    exact I2.laid (t' := s2.toks) (fun b o e => Heap.get?_push_of_some _ e) (Nat.le_of_eq hD) (txo_ok (txs_new (by rw [gS, ← hoS])))
  have f3 : ∀ b ∈ fp, FpOk X pins (upd H2 D (TxO X.w D [])) b ∧ b < s3.heap.objs.size := fun b hb => by
    obtain ⟨o, e, _⟩ := T.obj _ _ st2 b hb
    have lt := Heap.lt_size e
    refine ⟨⟨?_, (f2 b hb).2⟩, by rw [h3, Heap.size_push]; exact Nat.lt_succ_of_lt lt⟩
    rw [upd_ne (by rw [← hD]; exact Nat.ne_of_lt lt)]
    exact (f2 b hb).1
  have st3 : tn 0 s3.heap := T.keep _ _ _ st2 fun b _ o e => by rw [h3]; exact Heap.get?_push_of_some _ e
  have I4 := block_start I3 ok hN f3
  generalize hcl : cellsFrom (s3.heap.objs.size + 1) scope.names (cloFrom X.env.cells scope.names []) = cl at I4
  have pg := hg s3 (upd H2 D (TxO X.w D [])) s3.heap.objs.size cl fp
  have pt := ht s3 (upd H2 D (TxO X.w D [])) s3.heap.objs.size cl fp
  have pe := he s3 (upd H2 D (TxO X.w D [])) s3.heap.objs.size cl fp
  show codeAny _ _ (.compStart (.SetComp elt [⟨tg, iter, ifs, 0⟩] scope pos) 0 (.ref it) (.ref D) (compEnvC scope cl s3.heap.objs.size X.env)) (compPost (model X.prog X.w) X.A X.xe use Qf (.ref D) s3.heap.objs.size) { s3 with heap := pushCells (s3.heap.push { cls := .type "dict", data := .dict #[] }) scope.names }
  have nfp : ∀ b ∈ fp, (upd H2 D (TxO X.w D [])) b = none := fun b hb => (f3 b hb).1.1
  generalize hce : compEnvC scope cl s3.heap.objs.size X.env = ce at I4 pg pt pe ⊢
  have cL : ce.locals = s3.heap.objs.size := by subst hce; rfl
  generalize hH3 : upd H2 D (TxO X.w D []) = H3 at I3 I4 pg pt pe w0 nfp f3
  generalize hs4 : ({ s3 with heap := pushCells (s3.heap.push { cls := .type "dict", data := .dict #[] }) scope.names } : Shared) = s4 at I4 ⊢
  have st4 : tn 0 s4.heap := T.keep _ _ _ st3 fun b _ o e => by rw [← hs4]; exact pushCells_keeps _ _ _ _ (Heap.get?_push_of_some _ e)
  have stat : ∀ {σ1 : Sl} {H1 : Hp} {s1 : Shared}, Inv (X.blk s3 H3 scope ce fp) [] σ1 H1 s1 → (∀ b ∈ fp, H1 b = none) → ∀ b ∈ fp, FpOk (X.blk s3 H3 scope ce fp) [] H1 b := fun {σ1 H1 s1} I1 hn b hb =>
    ⟨hn b hb, (I1.ok.exf b hb).1, I1.ok.exfs b hb, .inl hb, fun x c e => (I1.ok.exf b hb).2 x c e, fun p hp => by simp at hp⟩
  have loop : codeAny (model X.prog X.w) X.A (.compLoop (.SetComp elt [⟨tg, iter, ifs, 0⟩] scope pos) 0 (.ref it) (.ref D) ce) (compPost (model X.prog X.w) X.A X.xe use Qf (.ref D) s3.heap.objs.size) s4 := by
    refine PpSet.compLoopS_any (fun n s' => ∃ i H', Inv (X.blk s3 H3 scope ce fp) [] (wipe σ (own.map (·.2))) H' s' ∧ tn i s'.heap ∧ (∀ b ∈ fp, H' b = none) ∧ W i n H') (fun n s5 hI => ?_) m0 ⟨0, H3, I4, st4, nfp, w0⟩
    obtain ⟨i, H5, I5, st5, n5, w5⟩ := hI
    rcases turn i n H5 w5 with ⟨stop, qq⟩ | ⟨go, Nx, hNx, step⟩
    · refine thnF (T.done (X.blk s3 H3 scope ce fp) rfl rfl rfl hc i [] s5 _ H5 (fun _ _ => False) I5 (stat I5 n5) st5 stop) fun r s6 hr6 => ?_
      obtain ⟨rfl, I6⟩ := hr6
      have I7 : Inv X pins σ H5 s6 := I3.call' (ch := fp) I6.os I6.base I6.hok I6.bare fun b hb => ⟨(f3 b hb).1.2.2.2.1, (f3 b hb).1.2.1, (f3 b hb).1.2.2.2.2.1, (f3 b hb).1.2.2.2.2.2⟩
      have nC : H5 ce.locals = none := I6.free
      obtain ⟨m, hn, _⟩ := I6.loc
      have hn' : s6.heap.Ns ce.locals m := hn
      rw [cL] at hn' nC
      exact hRR D s3.heap.objs.size s6 m H5 I7 qq hn' (I3.fpOk (Nat.le_refl _) nC)
    · refine thnF (T.item (X.blk s3 H3 scope ce fp) rfl rfl rfl hc i [] s5 _ H5 (fun _ _ => False) I5 (stat I5 n5) st5 go) fun r s6 hr6 => ?_
      obtain ⟨u, rfl, h6⟩ := hr6
      refine thnF h6 fun _ s7 h7 => ?_
      obtain ⟨x, H7, I7, r7, y7, st7, n7⟩ := h7
      have I7p := I7.pinned (stat I7 n7) (T.obj _ _ st7)
      refine thnF (pg.run _ s7 _ H7 x u _ I7p r7 (step x H7 y7)) fun _ s8 h8 => ?_
      obtain ⟨σ8, H8, I8, hw8, q8⟩ := h8
      refine thnF (pt.run _ s8 σ8 H8 _ I8 q8) fun b s9 h9 => ?_
      obtain ⟨H9, I9, q9⟩ := h9
      have fin : ∀ {s1 : Shared} {H1 : Hp}, Inv (X.blk s3 H3 scope ce fp) ([] ++ pinsAt fp s7.heap) σ8 H1 s1 → Nx H1 → ∃ m, m < n ∧ ∃ i H', Inv (X.blk s3 H3 scope ce fp) [] (wipe σ (own.map (·.2))) H' s1 ∧ tn i s1.heap ∧ (∀ b ∈ fp, H' b = none) ∧ W i m H' := fun {s1 H1} I1 nx => by
        obtain ⟨m', hm, w'⟩ := hNx H1 nx
        have pn : ∀ b ∈ fp, ∀ o, s7.heap.get? b = some o → s1.heap.get? b = some o ∧ H1 b = none := fun b hb o e =>
          ⟨(I1.pin (b, o) (List.mem_append_right _ (List.mem_append_right _ (mem_pinsAt hb e)))).1, (I1.pin (b, o) (List.mem_append_right _ (List.mem_append_right _ (mem_pinsAt hb e)))).2.1⟩
        refine ⟨m', hm, i + 1, H1, (I1.unpinned (pins := [])).weak (by rw [← hw8, wipe_length]) (fun j v e => ?_), T.keep _ _ _ st7 fun b hb o e => (pn b hb o e).1, fun b hb => ?_, w'⟩
        · rw [← hw8] at e
          exact (wipe_some e).1
        · obtain ⟨o, e, _⟩ := T.obj _ _ st7 b hb
          exact (pn b hb o e).2
      cases b with
      | false =>
        simp only [Bool.false_eq_true, if_false] at q9 ⊢
        exact fin I9 q9
      | true =>
        simp only [if_true] at q9 ⊢
        refine thnF (pe.run _ s9 σ8 H9 _ I9 q9) fun z s10 h10 => ?_
        obtain ⟨yv, H10, I10, r10, k0, l0, rfl, hD10, hz10, nx⟩ := h10
        obtain ⟨tk, rfl⟩ := r10
        exact txo_add (X := X.blk s3 H3 scope ce fp) I10 hD10 hz10 fun s11 I11 => fin I11 nx
  exact PpSet.codeAny_compStart_set loop (T.self X.A 0 _ _ _ st4 loop)
def stepS (f : FE) : List Str → EnvD → Option (List Str × EnvD) := fun l ρ => (f ρ).bind fun p => match p.1 with
  | .dat (.str k) => if l.length + 1 < scanBound then some (addS l k, p.2) else none
  | _ => none
def scF (vs : List Nat) (fi : FI) (g : FG) (t : FT) (f : FE) : FE := fun ρ => (fi ρ).bind fun p => if noneAt p.2 vs = true then (compA vs g t (stepS f) p.1 [] p.2).bind fun q => some (.dat (.sS q.1), q.2) else none
variable {R : List Nat} {elt tg iter : Expr} {ifs : List Expr} {scope : Scope} {own : List (Str × Nat)} {pos : Pos}
theorem de_sc {fi : FI} {g : FG} {t : FT} {f : FE} (hc : X.calm = true) (hN : X.N.Nodup) (hi : DI X R tg iter fi) (ok : BlkOk X.N X.env.scope scope own)
    (hg : ∀ (s : Shared) (H : Hp) (C : Addr) (cl : List (Str × Addr)) (fp : List Addr), PG (X.blk s H scope (compEnvC scope cl C X.env) fp) tg (tG (kw X) (own.map (·.2)) g))
    (ht : ∀ (s : Shared) (H : Hp) (C : Addr) (cl : List (Str × Addr)) (fp : List Addr), PTs (X.blk s H scope (compEnvC scope cl C X.env) fp) ifs (tT (kw X) R t))
    (he : ∀ (s : Shared) (H : Hp) (C : Addr) (cl : List (Str × Addr)) (fp : List Addr), PE (X.blk s H scope (compEnvC scope cl C X.env) fp) elt (tE (kw X) R f))
    (hs : ∀ x, foldedSetIterable iter X.env x = pure x := by intro _; rfl) : DE X R (.SetComp elt [⟨tg, iter, ifs, 0⟩] scope pos) (scF (own.map (·.2)) fi g t f) := by
  refine ⟨fun pins s σ H Q I hq => ?_⟩
  obtain ⟨ρ, r', ρ', okE, q, k⟩ := hq
  simp only [scF, Option.bind_eq_some_iff] at q
  obtain ⟨⟨ds, ρ1⟩, q1, q2⟩ := q
  split at q2
  · rename_i hn
    simp only [Option.bind_eq_some_iff] at q2
    obtain ⟨⟨l, ρ2⟩, q3, q4⟩ := q2
    cases q4
    rw [PpSet.eval_SetComp]
    have red : tComp (tI (kw X) R fi) (tG (kw X) (own.map (·.2)) g) (tT (kw X) R t) (bodyS X.w (tE (kw X) R f)) (own.map (·.2)) (fun D => TxO X.w D []) σ H fun v H' => ∃ D, v = .ref D ∧ Kp R σ ρ H ρ2 H' ∧ EnvOk (kw X) H' σ ρ2 ∧ H D = none ∧ (∀ j, ¬ OwnS σ ρ2 j D) ∧ H' D = some (TxO X.w D l) := by
      refine comp_red (At := fun H D a => H D = some (TxO X.w D a)) (fun H D a h => ⟨_, h, id⟩) (fun H H' D a f e h => by rw [e]; exact h) (fun H D hD => upd_same) (fun D σ2 H3 ρb a a' ρe Nx ok3 at3 nD q5 kN => ?_) okE q1 hn q3 fun D H' k1 ok1 hD nD at1 => ⟨D, rfl, k1, ok1, hD, nD, at1⟩
      simp only [stepS, Option.bind_eq_some_iff] at q5
      obtain ⟨⟨rk, ρk⟩, q6, q7⟩ := q5
      split at q7
      · rename_i dk erk
        obtain rfl : rk = .dat (.str dk) := erk
        split at q7
        · rename_i sz
          cases q7
          refine ⟨ρb, _, _, ok3, q6, fun y H4 k4 ok4 o4 => ⟨dk, a, ?_, k4.obj D _ at3 fun j hj => nD j hj, sz, kN H4 _ k4 ok4 upd_same⟩⟩
          cases (show Dv (kw X) H4 y (.str dk) from o4)
          rfl
        · cases q7
      · cases q7
    refine txc_core hc hN I hi ok hg ht he hs red fun D C s1 m H1 I1 q hn1 f1 => ⟨m, hn1, fun h2 sb => ?_⟩
    obtain ⟨f0, f1, f2, f3, f4, f5⟩ := f1
    obtain ⟨D', e, k1, ok1, hD, nD, at1⟩ := q
    cases e
    have I2 : Inv X pins σ H1 { s1 with heap := h2 } := I1.turned (t' := s1.toks) (fun b o hb e => (sb.2 b hb).trans e) f0 f1 f3 f4 f5
    have R2 : TxSet X.w h2 D l := (I2.hok D _ at1).1
    obtain ⟨od, I3⟩ := I2.lock at1 trivial
    have hod : h2.get? D = some od := (I3.hok D _ upd_same).1
    obtain ⟨o, es, ep, t, ho, hx, hd, SD⟩ := R2
    rw [hod] at ho
    cases ho
    have fz := fz_upd (o := od) at1 id
    refine ⟨.ref D, _, I3, rfl, k (.ref D) _ ⟨fun b o hb hn => ?_, fun b hb => ?_, k1.own, k1.ref, k1.full⟩ ⟨ok1.len, fun i y e2 => ?_, ok1.sep⟩ (.sS upd_same hx hd SD)⟩
    · rw [upd_ne (ne_of_none hb hD)]
      exact k1.obj b o hb hn
    · by_cases hba : b = D
      · rw [hba]; exact hD
      · rw [upd_ne hba] at hb
        exact k1.trk b hb
    · obtain ⟨v, e3, hv⟩ := ok1.at' i y e2
      refine ⟨v, e3, ?_⟩
      cases y with
      | dat d => exact Dv.mono fz hv
      | own y =>
        obtain ⟨b, rfl, ho⟩ := hv
        have hb : b ≠ D := fun z => nD i ⟨⟨y, e2⟩, by rw [← z]; exact e3⟩
        exact ⟨b, rfl, ho.mono fz (upd_ne hb)⟩
  · cases q2
end
end DL

/-! DL18: what the printed texts use. -/
namespace DL
open L2 PySem PySem.Spec PyProof.Rows PySem.W

theorem room_hu {k : Nat} {A : Around} (h : Room k A) : A.units + 64 < cLine := by
  have := h.un
  omega
theorem room_hu1 {k : Nat} {A : Around} (h : Room k A) : A.units + 1 < cLine := by
  have := h.un
  omega
theorem appO_l : ∀ o ds w, appO o ds = some w → ∃ xs, o = .ml xs := fun o ds w h => by
  unfold appO at h
  split at h
  · exact ⟨_, rfl⟩
  · cases h
theorem popO_l : ∀ o ds w, popO o ds = some w → ∃ xs, o = .ml xs := fun o ds w h => by
  unfold popO at h
  split at h
  · exact ⟨_, rfl⟩
  · cases h
def mutL (j : Nat) (g : FA) (F : OV → List D → Option (D × OV)) : FE := fun ρ => match ρ[j]? with
  | some (some (.own (.ml _))) => mutF j g F ρ
  | _ => none
section
variable {X : Cx} {R : List Nat} {e : Expr} {es : List Expr} {apos cpos npos : Pos} {name : Str}
theorem de_mutL (j : Nat) {x : Str} {id : String} {g : FA} {F : OV → List D → Option (D × OV)} (hF : MtR X id (gMu (kw X) F)) (slot : Slot "list" name id) (hty : typeOf (.builtin id) = pure (.type "method_descriptor")) (ha : DA X R (e :: es) g) (hFl : ∀ o ds w, F o ds = some w → ∃ xs, o = .ml xs)
    (hN : X.N[j]? = some x := by rfl) (hv : Vis X.env.scope x := by first | exact Or.inl rfl | exact Or.inr (Or.inl rfl) | exact Or.inr (Or.inr rfl)) (hd : (x == ("__debug__" : Str)) = false := by decide) (hcd : (x == ("__classdict__" : Str)) = false := by decide)
    (hbase : attributeBase (.Name x npos) name X.env (eval (.Name x npos) X.env) = eval (.Name x npos) X.env := by rfl)
    (hfew : ((backTo cpos (starEach (e :: es) X.env)).all (fun x => !x.1) && (backToKw cpos (keywordEach [] X.env)).all (fun x => x.1.isSome)
      && decide ((e :: es).length + ([] : List Keyword).length + (if ([] : List Keyword).isEmpty then 0 else 1) < 30)) = true := by rfl)
    (hline : (apos.endLine == cpos.line) = true := by rfl) (hs : starEach (e :: es) X.env = (false, eval e X.env) :: starEach es X.env := by rfl) (hplain : (backTo cpos (starEach es X.env)).any (·.1) = false := by rfl) :
    DE X R (.Call (.Attribute (.Name x npos) name apos) (e :: es) [] cpos) (mutL j g F) := de_mut j hF slot hty ha hFl hN hv hd hcd hbase hfew hline hs hplain
end
/-- a def's function, asked at as many arguments as it takes -/
def gdP (n : Nat) (F : FP) : FP := fun ds => if ds.length = n then F ds else none
def gdR (n : Nat) (F : FR) : FR := fun y ds => if ds.length + 1 = n then F y ds else none
section
variable {X : Cx} {R : List Nat} {k : Nat} {f : Addr} {fd : FuncData} {ps : List Str} {x : Str} {p pos : Pos} {e : Expr} {es : List Expr} {g : FA}
theorem de_cP (n : Nat) (F : FP) (hg0 : X.A.guards = some []) (G : FnG X.prog X.w X.K X.mg X.base k f fd ps (spP (kw X) n F)) (hr : Room k X.A) (hm : X.mg x = some (.ref f)) (hk : PySem.W.keepIn X.K (.ref f) = true) (hb : L2.Binds X.K fd ps [])
    (ha : DA X R (e :: es) g) (hn : ps.length = n := by rfl) (hg : Gl X x := by rfl) (hl : (e :: es).length = ps.length := by rfl) (hdb : (x == ("__debug__" : Str)) = false := by decide) (he : starEach (e :: es) X.env = (false, eval e X.env) :: starEach es X.env := by rfl) (hpl : (backTo pos (starEach es X.env)).any (·.1) = false := by rfl) :
    DE X R (.Call (.Name x p) (e :: es) [] pos) (callP (gdP n F) g) := by
  subst hn
  exact de_call hg0 G hr hg hm hk hb ha hl hdb he hpl
theorem de_cR (n : Nat) (F : FR) (hg0 : X.A.guards = some []) (G : FnG X.prog X.w X.K X.mg X.base k f fd ps (spR (kw X) n F)) (hr : Room k X.A) (hm : X.mg x = some (.ref f)) (hk : PySem.W.keepIn X.K (.ref f) = true) (hb : L2.Binds X.K fd ps [])
    (ha : DA X R (e :: es) g) (hn : ps.length = n := by rfl) (hg : Gl X x := by rfl) (hdb : (x == ("__debug__" : Str)) = false := by decide) (he : starEach (e :: es) X.env = (false, eval e X.env) :: starEach es X.env := by rfl) (hpl : (backTo pos (starEach es X.env)).any (·.1) = false := by rfl) :
    DE X R (.Call (.Name x p) (e :: es) [] pos) (callR (gdR n F) g) := by
  subst hn
  exact de_callR hg0 G hr hg hm hk hb ha hdb he hpl
end
end DL

/-! DL19: == over data with dicts. -/
namespace DL
open L2 PySem PySem.Spec PyProof.Rows PySem.W

def allO : List (Option Bool) → Option Bool
  | [] => some true
  | o :: r => o.bind fun b => (allO r).map fun c => b && c
def eqLeaf (n : Nat) (d e : D) : Option Bool := match d.pd, e.pd with
  | some p, some q => if min p.depth q.depth ≤ n then some (PyData.eqv p q) else none
  | _, _ => none
def eqN : Nat → D → D → Option Bool
  | 0, d, e => eqLeaf 0 d e
  | n + 1, .lst xs, .lst ys => if xs.length = ys.length then allO (List.zipWith (eqN n) xs ys) else some false
  | n + 1, .tup xs, .tup ys => (allO (List.zipWith (eqN n) xs ys)).map fun b => b && xs.length == ys.length
  | n + 1, .dK a, .dK b => if (a.map (·.1)).Nodup ∧ (b.map (·.1)).Nodup then (allO (a.map fun p => match getK b p.1 with
      | none => some false
      | some y => eqN n p.2 y)).map fun c => a.length == b.length && c else none
  | n + 1, d, e => eqLeaf (n + 1) d e
theorem allO_spec : ∀ {l : List (Option Bool)} {b : Bool}, allO l = some b → (∀ o ∈ l, ∃ c, o = some c) ∧ b = l.all fun o => o.getD false
  | [], b, h => by
    cases h
    exact ⟨fun o ho => (by cases ho), rfl⟩
  | o :: r, b, h => by
    simp only [allO, Option.bind_eq_some_iff, Option.map_eq_some_iff] at h
    obtain ⟨c, rfl, e, h2, rfl⟩ := h
    obtain ⟨h3, rfl⟩ := allO_spec h2
    refine ⟨fun o ho => ?_, rfl⟩
    rcases List.mem_cons.mp ho with rfl | ho
    · exact ⟨c, rfl⟩
    · exact h3 o ho
theorem all_range {α : Type} (l : List α) (f : α → Bool) (g : Nat → Bool) (h : ∀ j (hj : j < l.length), f l[j] = g j) : l.all f = (List.range l.length).all g := by
  rw [Bool.eq_iff_iff, List.all_eq_true, List.all_eq_true]
  constructor
  · intro q j hj
    have hj' : j < l.length := List.mem_range.mp hj
    rw [← h j hj']
    exact q _ (List.getElem_mem hj')
  · intro q x hx
    obtain ⟨j, hj, rfl⟩ := List.getElem_of_mem hx
    rw [h j hj]
    exact q j (List.mem_range.mpr hj)
theorem getK_nodup {κ : Type} [DecidableEq κ] {kvs : List (κ × D)} {k : κ} {d : D} (nd : (kvs.map (·.1)).Nodup) (h : (k, d) ∈ kvs) : getK kvs k = some d := by
  induction kvs with
  | nil => cases h
  | cons p r ih =>
    rw [List.map_cons, List.nodup_cons] at nd
    unfold getK
    rcases List.mem_cons.mp h with e | h
    · subst e
      simp
    · have ne : ¬ p.1 = k := fun z => nd.1 (by rw [z]; exact List.mem_map.mpr ⟨_, h, rfl⟩)
      rw [List.find?_cons_of_neg (by simpa using ne)]
      exact ih nd.2 h
section
variable {X : Cx} {pins : List (Addr × Obj)} {σ : Sl} {H : Hp} {s : Shared}
theorem leaf_spec {n : Nat} {d e : D} {b : Bool} (h : eqLeaf n d e = some b) : ∃ p q, d.pd = some p ∧ e.pd = some q ∧ min p.depth q.depth ≤ n ∧ b = PyData.eqv p q := by
  unfold eqLeaf at h
  split at h
  · rename_i p q e1 e2
    split at h
    · cases h
      exact ⟨p, q, e1, e2, by assumption, rfl⟩
    · cases h
  · cases h
theorem eq_same (I : Inv X pins σ H s) : ∀ (n : Nat) (d e : D) (b : Bool) (x : V) (v : Value), eqN n d e = some b → Dv (kw X) H x d → Dv (kw X) H x e → RelV x v → b = true := by
  have leaf : ∀ (n : Nat) (d e : D) (b : Bool) (x : V) (v : Value), eqLeaf n d e = some b → Dv (kw X) H x d → Dv (kw X) H x e → RelV x v → b = true := fun n d e b x v h h1 h2 r => by
    obtain ⟨p, q, e1, e2, _, rfl⟩ := leaf_spec h
    obtain ⟨as, r1⟩ := dv_reads I d p x v e1 h1 r
    obtain ⟨bs, r2⟩ := dv_reads I e q x v e2 h2 r
    have := (Reads.unique r1 q bs r2).1
    subst this
    exact SeqAt.eqv_refl_plain p (pd_plain _ _ e1)
  have items : ∀ (n : Nat), (∀ (d e : D) (b : Bool) (x : V) (v : Value), eqN n d e = some b → Dv (kw X) H x d → Dv (kw X) H x e → RelV x v → b = true) → ∀ (xs ys : List D) (vs : List V) (us : List Value) (b : Bool), allO (List.zipWith (eqN n) xs ys) = some b → Dvs (kw X) H vs xs → Dvs (kw X) H vs ys → Vals vs us → b = true := by
    intro n ih xs
    induction xs with
    | nil =>
      intro ys vs us b h _ _ _
      rw [List.zipWith_nil_left] at h
      cases h
      rfl
    | cons x xs ihx =>
      intro ys vs us b h h1 h2 r
      cases h1 with
      | cons a1 a2 =>
        cases h2 with
        | cons b1 b2 =>
          cases r with
          | cons r1 r2 =>
            simp only [List.zipWith_cons_cons, allO, Option.bind_eq_some_iff, Option.map_eq_some_iff] at h
            obtain ⟨c, e1, c2, e2, rfl⟩ := h
            rw [ih _ _ _ _ _ e1 a1 b1 r1, ihx _ _ _ _ e2 a2 b2 r2]
            rfl
  intro n
  induction n with
  | zero => exact leaf 0
  | succ n ih =>
    intro d e b x v h h1 h2 r
    unfold eqN at h
    split at h
    · cases ‹n + 1 = 0›
    · rename_i n' xs ys en
      cases en
      cases h1 with
      | lst f1 g1 =>
        cases h2 with
        | lst f2 g2 =>
          obtain ⟨o1, f1⟩ := f1
          obtain ⟨o2, f2⟩ := f2
          rw [f1] at f2
          cases f2
          rw [if_pos (by rw [← g1.length, ← g2.length])] at h
          obtain ⟨_, its, nn, rv, _, _⟩ := inv_lst I (Or.inr ⟨_, f1⟩)
          exact items n ih xs ys _ its b h g1 g2 rv
    · rename_i n' xs ys en
      cases en
      cases h1 with
      | tup f1 g1 =>
        cases h2 with
        | tup f2 g2 =>
          rw [f1] at f2
          cases f2
          simp only [Option.map_eq_some_iff] at h
          obtain ⟨c, e1, rfl⟩ := h
          obtain ⟨its, rv, _⟩ := I.tuple (SqT.of f1)
          rw [items n ih xs ys _ its c e1 g1 g2 rv]
          simp [← g1.length, ← g2.length]
    · rename_i n' xs ys en
      cases en
      split at h
      · rename_i nd
        simp only [Option.map_eq_some_iff] at h
        obtain ⟨c, e1, rfl⟩ := h
        cases h1 with
        | dK f1 k1 g1 =>
          cases h2 with
          | dK f2 k2 g2 =>
            rw [f1] at f2
            cases f2
            have el : xs.length = ys.length := by
              have q1 := congrArg List.length k1
              have q2 := congrArg List.length k2
              simp at q1 q2
              omega
            obtain ⟨_, _, ps, rel, _⟩ := dk_rd I.hok (Or.inr ⟨_, f1⟩)
            obtain ⟨q1, rfl⟩ := allO_spec e1
            simp only [el, beq_self_eq_true, Bool.true_and, List.all_map, List.all_eq_true]
            intro p hp
            obtain ⟨j, hj, ej⟩ := List.getElem_of_mem hp
            have hkj : (ys.map (·.1))[j]? = some p.1 := by
              rw [← k2, k1, List.getElem?_map, List.getElem?_eq_getElem hj, ej]
              rfl
            rw [List.getElem?_map, Option.map_eq_some_iff] at hkj
            obtain ⟨y, ey, ek⟩ := hkj
            have gy : getK ys p.1 = some y.2 := getK_nodup nd.2 (by rw [← ek]; exact List.mem_of_getElem? ey)
            obtain ⟨c, ec⟩ := q1 _ (List.mem_map.mpr ⟨p, hp, rfl⟩)
            simp only [gy] at ec
            obtain ⟨w1, ew1, hw1⟩ := g1.get (i := j) (d := p.2) (by rw [List.getElem?_map, List.getElem?_eq_getElem hj, ej]; rfl)
            obtain ⟨w2, ew2, hw2⟩ := g2.get (i := j) (d := y.2) (by rw [List.getElem?_map, ey]; rfl)
            rw [ew1] at ew2
            cases ew2
            rw [List.getElem?_map, Option.map_eq_some_iff] at ew1
            obtain ⟨pv, epv, rfl⟩ := ew1
            obtain ⟨uu, _, ru⟩ := kv_get rel (k := pv.1) (v := pv.2) epv
            have := ih _ _ _ _ _ ec hw1 hw2 ru
            simp only [Function.comp, gy, ec, this]
            rfl
      · cases h
    · exact leaf _ _ _ _ _ _ h h1 h2 r
theorem vals_at {vs : List V} {us : List Value} (r : Vals vs us) {j : Nat} (h : j < us.length) : ∃ v, vs[j]? = some v ∧ RelV v us[j] := vals_get r (List.getElem?_eq_getElem h)
/-- what two rows answer, item by item -/
def itemsE (n : Nat) (xs ys : List D) (j : Nat) : Bool := (((List.zipWith (eqN n) xs ys)[j]?).getD none).getD false
theorem items_tree (I : Inv X pins σ H s) (n : Nat) (ih : ∀ (d e : D) (b : Bool) (x y : V) (v u : Value), eqN n d e = some b → Dv (kw X) H x d → Dv (kw X) H y e → RelV x v → RelV y u → EqTree X.prog X.w s n v u b) {xs ys : List D} {vs ws : List V} {us zs : List Value} {b : Bool}
    (h : allO (List.zipWith (eqN n) xs ys) = some b) (h1 : Dvs (kw X) H vs xs) (h2 : Dvs (kw X) H ws ys) (r1 : Vals vs us) (r2 : Vals ws zs) :
    (∀ j (g1 : j < us.toArray.size) (g2 : j < zs.toArray.size), EqTree X.prog X.w s n us.toArray[j] zs.toArray[j] (itemsE n xs ys j)) ∧ b = (List.range (min us.length zs.length)).all (itemsE n xs ys) := by
  obtain ⟨q1, q2⟩ := allO_spec h
  have l1 : us.length = xs.length := by rw [← r1.length, h1.length]
  have l2 : zs.length = ys.length := by rw [← r2.length, h2.length]
  refine ⟨fun j g1 g2 => ?_, ?_⟩
  · have j1 : j < us.length := by simpa using g1
    have j2 : j < zs.length := by simpa using g2
    obtain ⟨v, e1, f1⟩ := vals_at r1 j1
    obtain ⟨w, e2, f2⟩ := vals_at r2 j2
    obtain ⟨d, d1, hd⟩ := h1.getV e1
    obtain ⟨e, d2, he⟩ := h2.getV e2
    have hz : (List.zipWith (eqN n) xs ys)[j]? = some (eqN n d e) := by rw [List.getElem?_zipWith, d1, d2]
    obtain ⟨c, ec⟩ := q1 _ (List.mem_of_getElem? hz)
    have : itemsE n xs ys j = c := by unfold itemsE; rw [hz, ec]; rfl
    rw [this]
    simpa using ih d e c v w us[j] zs[j] ec hd he f1 f2
  · rw [q2, all_range _ _ (itemsE n xs ys)]
    · rw [List.length_zipWith, l1, l2]
    · intro j hj
      unfold itemsE
      rw [List.getElem?_eq_getElem hj]
      rfl
def keyE (n : Nat) (a b : List (Key × D)) (k : Key) : Bool := match getK a k, getK b k with
  | some x, some y => (eqN n x y).getD false
  | _, _ => false
theorem keys_tree (I : Inv X pins σ H s) (n : Nat) (ih : ∀ (d e : D) (b : Bool) (x y : V) (v u : Value), eqN n d e = some b → Dv (kw X) H x d → Dv (kw X) H y e → RelV x v → RelV y u → EqTree X.prog X.w s n v u b) {a b : List (Key × D)} {kva kvb : List (Key × V)} {ka kb : List (Key × Value)} {c : Bool} (na : (a.map (·.1)).Nodup)
    (h : allO (a.map fun p => match getK b p.1 with
      | none => some false
      | some y => eqN n p.2 y) = some c) (r1 : PutRel (kw X) H kva a) (r2 : PutRel (kw X) H kvb b) (v1 : KV kva ka) (v2 : KV kvb kb) :
    (∀ k v y, (k, v) ∈ ka → valueAt kb k = some y → EqTree X.prog X.w s n v y (keyE n a b k)) ∧ c = ka.all fun p => (valueAt kb p.1).isSome && keyE n a b p.1 := by
  obtain ⟨q1, q2⟩ := allO_spec h
  have some_eq : ∀ k, (valueAt kb k).isSome = (getK b k).isSome := fun k => by
    have z := (v2.val k).isSome_eq
    rw [← z]
    exact isSome_rel (getK_rel k r2.1 r2.2)
  refine ⟨fun k v y hm hv => ?_, ?_⟩
  · obtain ⟨j, hj⟩ := List.getElem?_of_mem hm
    obtain ⟨⟨k', w⟩, e1, e2, e3⟩ : ∃ p : Key × V, kva[j]? = some p ∧ p.1 = k ∧ RelV p.2 v := by
      have lk : kva.length = ka.length := Paired.length v1
      have hj' : j < kva.length := by
        have := (List.getElem?_eq_some_iff.mp hj).1
        omega
      obtain ⟨u, f1, f2⟩ := kv_get v1 (i := j) (k := kva[j].1) (v := kva[j].2) (List.getElem?_eq_getElem hj')
      rw [hj] at f1
      cases f1
      exact ⟨kva[j], List.getElem?_eq_getElem hj', rfl, f2⟩
    simp only at e2
    subst e2
    obtain ⟨dx, d1, d2⟩ := r1.2.getV (i := j) (v := w) (by rw [List.getElem?_map, e1]; rfl)
    have hk : (a.map (·.1))[j]? = some k' := by rw [← r1.1, List.getElem?_map, e1]; rfl
    rw [List.getElem?_map, Option.map_eq_some_iff] at d1 hk
    obtain ⟨p, p1, p2⟩ := d1
    obtain ⟨p', p1', p2'⟩ := hk
    rw [p1] at p1'
    cases p1'
    have ga : getK a k' = some dx := getK_nodup na (by rw [← p2, ← p2']; exact List.mem_of_getElem? p1)
    have rel := v2.val k'
    rcases getK_rel k' r2.1 r2.2 with ⟨z1, z2⟩ | ⟨w2, dy, z1, z2, z3⟩
    · rw [z1, hv] at rel
      exact rel.elim
    · rw [z1, hv] at rel
      obtain ⟨cc, ecc⟩ := q1 _ (List.mem_map.mpr ⟨p, List.mem_of_getElem? p1, rfl⟩)
      rw [p2'] at ecc
      simp only [z2, p2] at ecc
      have : keyE n a b k' = cc := by unfold keyE; rw [ga, z2]; simp only [ecc]; rfl
      rw [this]
      exact ih dx dy cc w w2 v y ecc d2 z3 e3 rel
  · have k1 : (ka.all fun p => (valueAt kb p.1).isSome && keyE n a b p.1) = (ka.map (·.1)).all fun k => (getK b k).isSome && keyE n a b k := by
      rw [List.all_map]
      congr 1
      funext p
      simp only [Function.comp, some_eq]
    rw [k1, ← v1.keys, r1.1, List.all_map, q2, List.all_map]
    rw [Bool.eq_iff_iff, List.all_eq_true, List.all_eq_true]
    refine forall_congr' fun p => forall_congr' fun hp => ?_
    have ga : getK a p.1 = some p.2 := getK_nodup na hp
    simp only [Function.comp, keyE, ga]
    cases hb : getK b p.1 with
    | none => simp
    | some y => simp
theorem eq_tree (I : Inv X pins σ H s) : ∀ (n : Nat) (d e : D) (b : Bool) (x y : V) (v u : Value), eqN n d e = some b → Dv (kw X) H x d → Dv (kw X) H y e → RelV x v → RelV y u → EqTree X.prog X.w s n v u b := by
  have leaf : ∀ (n : Nat) (d e : D) (b : Bool) (x y : V) (v u : Value), eqLeaf n d e = some b → Dv (kw X) H x d → Dv (kw X) H y e → RelV x v → RelV y u → EqTree X.prog X.w s n v u b := fun n d e b x y v u h h1 h2 r1 r2 => by
    obtain ⟨p, q, e1, e2, sz, rfl⟩ := leaf_spec h
    obtain ⟨as, g1⟩ := dv_reads I d p x v e1 h1 r1
    obtain ⟨bs, g2⟩ := dv_reads I e q y u e2 h2 r2
    exact .leaf fun A hu => SeqAt.eqAt_plain p q A s v u as bs g1 g2 (pd_plain _ _ e1) (pd_plain _ _ e2) (by omega)
  intro n
  induction n with
  | zero => exact leaf 0
  | succ n ih =>
    intro d e b x y v u h h1 h2 r1 r2
    have h0 := h
    unfold eqN at h
    split at h
    · cases ‹n + 1 = 0›
    · rename_i n' xs ys en
      cases en
      cases h1 with
      | lst f1 g1 =>
        rename_i a vs
        cases h2 with
        | lst f2 g2 =>
          rename_i c ws
          cases r1
          cases r2
          by_cases hac : a = c
          · subst hac
            have := eq_same I (n + 1) _ _ _ (.ref a) (.ref a) h0 (.lst f1 g1) (.lst f2 g2) rfl
            subst this
            exact .same
          · obtain ⟨_, its, nn, rv, _, ho⟩ := inv_lst I f1.rd
            obtain ⟨_, its2, nn2, rv2, _, ho2⟩ := inv_lst I f2.rd
            have e1 : its.length = xs.length := by rw [← rv.length, g1.length]
            have e2 : its2.length = ys.length := by rw [← rv2.length, g2.length]
            split at h
            · rename_i el
              obtain ⟨t1, t2⟩ := items_tree I n ih h g1 g2 rv rv2
              have sz : its.toArray.size = its2.toArray.size := by simp; omega
              have t := EqTree.lists (prog := X.prog) (w := X.w) hac ⟨_, ho, rfl, nn, rfl⟩ ⟨_, ho2, rfl, nn2, rfl⟩ sz t1
              rw [t2, show min its.length its2.length = its.toArray.size by simp; omega]
              exact t
            · cases h
              exact .listsLen hac ⟨_, ho, rfl, nn, rfl⟩ ⟨_, ho2, rfl, nn2, rfl⟩ (by simp; omega)
    · rename_i n' xs ys en
      cases en
      cases h1 with
      | tup f1 g1 =>
        rename_i a vs
        cases h2 with
        | tup f2 g2 =>
          rename_i c ws
          cases r1
          cases r2
          by_cases hac : a = c
          · subst hac
            have := eq_same I (n + 1) _ _ _ (.ref a) (.ref a) h0 (.tup f1 g1) (.tup f2 g2) rfl
            subst this
            exact .same
          · obtain ⟨its, rv, pl, _⟩ := I.tuple (SqT.of f1)
            obtain ⟨its2, rv2, pl2, _⟩ := I.tuple (SqT.of f2)
            simp only [Option.map_eq_some_iff] at h
            obtain ⟨cc, ec, rfl⟩ := h
            obtain ⟨t1, t2⟩ := items_tree I n ih ec g1 g2 rv rv2
            have t := EqTree.tuples (prog := X.prog) (w := X.w) hac pl pl2 t1
            have e1 : its.length = xs.length := by rw [← rv.length, g1.length]
            have e2 : its2.length = ys.length := by rw [← rv2.length, g2.length]
            rw [t2, ← e1, ← e2]
            simpa using t
    · rename_i n' xs ys en
      cases en
      split at h
      · rename_i nd
        simp only [Option.map_eq_some_iff] at h
        obtain ⟨cc, ec, rfl⟩ := h
        cases h1 with
        | dK f1 k1 g1 =>
          rename_i a o kv
          cases h2 with
          | dK f2 k2 g2 =>
            rename_i c o2 kv2
            cases r1
            cases r2
            by_cases hac : a = c
            · subst hac
              have := eq_same I (n + 1) _ _ _ (.ref a) (.ref a) h0 (.dK f1 k1 g1) (.dK f2 k2 g2) rfl
              rw [this]
              exact .same
            · obtain ⟨_, s1, ka, rel1, dd1⟩ := dk_rd I.hok (Or.inr ⟨_, f1⟩)
              obtain ⟨_, s2, kb, rel2, dd2⟩ := dk_rd I.hok (Or.inr ⟨_, f2⟩)
              obtain ⟨t1, t2⟩ := keys_tree I n ih nd.1 ec ⟨k1, g1⟩ ⟨k2, g2⟩ rel1 rel2
              have t := EqTree.dicts (prog := X.prog) (w := X.w) hac s1 s2 dd1 dd2 t1
              have l1 : xs.length = ka.length := by
                have q1 := congrArg List.length k1
                have q2 : kv.length = ka.length := Paired.length rel1
                simp at q1
                omega
              have l2 : ys.length = kb.length := by
                have q1 := congrArg List.length k2
                have q2 : kv2.length = kb.length := Paired.length rel2
                simp at q1
                omega
              rw [l1, l2, t2]
              exact t
      · cases h
    · rename_i m en _ _ _
      have q : n = m := Nat.succ.inj en
      subst q
      exact leaf _ _ _ _ _ _ _ _ h h1 h2 r1 r2
end
end DL

/-! DL20: ==, != as operators, over data with dicts. -/
namespace DL
open PySem PySem.SeqAt AutoSeq1 MeetsSeq MeetsSeq2 MeetsSeq3 SeqRoads2
section
variable {prog : Program} {w : World}
/-- the walk of two lists that are asked whether they differ -/
theorem nel_loop (l m : Addr) (xs ys : Array Value) (p q : Nat) (dl dm : Option Addr) (sl sm : Array (Option Value)) (hs : xs.size = ys.size) (e : Nat → Bool) (k : Nat) : ∀ i : Nat, xs.size - i = k →
    MeetsIn prog w (Builtin.«list.__eq__.loop» ⟨[.ref l, .ref m, rawInt i, rawInt 3], []⟩) (fun A R s => s.heap.get? l = some { cls := .type "list", dict := dl, data := .seq xs p, slots := sl } ∧
      s.heap.get? m = some { cls := .type "list", dict := dm, data := .seq ys q, slots := sm } ∧ (∀ j (h1 : j < xs.size) (h2 : j < ys.size), EqIn prog w A.in1 s xs[j] ys[j] (e j)) ∧ R (.ok (.ret (.bool (!((List.range xs.size).drop i).all e)))) s) := by
  induction k with
  | zero =>
    intro i hk A R s h
    obtain ⟨hp, g, d, tk, os⟩ := s
    obtain ⟨hl, hm, he, h⟩ := h
    wp_walk using wpAny_loadPart' hl, wpAny_loadPart' hm
    have i1 : xs[((i : Nat) : Int).toNat]? = none := by simp; omega
    have i2 : ys[((i : Nat) : Int).toNat]? = none := by simp; omega
    have dn : (List.range xs.size).drop i = [] := by simp; omega
    rw [dn] at h
    rw [i1, i2]
    wp_walk using wpAny_loadPart' hl, wpAny_loadPart' hm
    show R (.ok (.ret (.bool (xs.size != ys.size)))) _
    rw [hs]
    simpa using h
  | succ k ih =>
    intro i hk A R s h
    obtain ⟨hp, g, d, tk, os⟩ := s
    obtain ⟨hl, hm, he, h⟩ := h
    wp_walk using wpAny_loadPart' hl, wpAny_loadPart' hm
    have l1 : i < xs.size := by omega
    have l2 : i < ys.size := by omega
    have i1 : xs[((i : Nat) : Int).toNat]? = some xs[i] := by simp [l1]
    have i2 : ys[((i : Nat) : Int).toNat]? = some ys[i] := by simp [l2]
    have dc : (List.range xs.size).drop i = i :: (List.range xs.size).drop (i + 1) := by simp [List.drop_eq_getElem_cons, l1]
    have ec : ((i : Int) + 1) = ((i + 1 : Nat) : Int) := by push_cast; rfl
    rw [dc, List.all_cons] at h
    rw [i1, i2]
    refine wpAny_bind (he i l1 l2 _ _ ?_)
    cases hb : e i with
    | true =>
      rw [hb] at h
      wp_walk
      rw [ec]
      refine ⟨plainId_quiet plain_eq_loop _, codeAny_builtin entry_eq_loop ?_⟩
      rw [Around.under_plainId plain_eq_loop _]
      exact ih (i + 1) (by omega) A R _ ⟨hl, hm, he, by simpa using h⟩
    | false =>
      rw [hb] at h
      wp_walk using wpAny_loadPart' hl, wpAny_loadPart' hm
      rw [i1, i2]
      wp_walk
      simpa using h
theorem nel_in (l m : Addr) (xs ys : Array Value) (p q : Nat) (dl dm : Option Addr) (sl sm : Array (Option Value)) (hs : xs.size = ys.size) (e : Nat → Bool) :
    MeetsIn prog w (Builtin.«list.__ne__» ⟨[.ref l, .ref m], []⟩) (fun A R s => s.heap.get? l = some { cls := .type "list", dict := dl, data := .seq xs p, slots := sl } ∧ s.heap.get? m = some { cls := .type "list", dict := dm, data := .seq ys q, slots := sm } ∧
      (∀ j (h1 : j < xs.size) (h2 : j < ys.size), EqIn prog w A.in1 s xs[j] ys[j] (e j)) ∧ R (.ok (.ret (.bool (!(List.range xs.size).all e)))) s) := by
  intro A R s h
  obtain ⟨hp, g, d, tk, os⟩ := s
  obtain ⟨hl, hm, he, h⟩ := h
  have f3 := AutoSeq1.sub_list_list
  have sz : ¬ (xs.size != ys.size) = true := by simp [hs]
  wp_walk using wpAny_loadPart' hl, wpAny_loadPart' hm
  refine ⟨plainId_quiet plain_eq_loop _, codeAny_builtin entry_eq_loop ?_⟩
  rw [Around.under_plainId plain_eq_loop _]
  exact nel_loop l m xs ys p q dl dm sl sm hs e _ 0 rfl A R _ ⟨hl, hm, he, by simpa using h⟩
theorem net_in (l m : Addr) (xs ys : Array Value) (p q : Nat) (dl dm : Option Addr) (sl sm : Array (Option Value)) (e : Nat → Bool) :
    MeetsIn prog w (Builtin.«tuple.__ne__» ⟨[.ref l, .ref m], []⟩) (fun A R s => s.heap.get? l = some { cls := .type "tuple", dict := dl, data := .seq xs p, slots := sl } ∧ s.heap.get? m = some { cls := .type "tuple", dict := dm, data := .seq ys q, slots := sm } ∧
      (∀ j (h1 : j < xs.size) (h2 : j < ys.size), EqIn prog w A.in1 s xs[j] ys[j] (e j)) ∧ R (.ok (.ret (.bool (!((List.range (min xs.size ys.size)).all e && xs.size == ys.size))))) s) :=
  .of_wp fun A R s h => by
    obtain ⟨hp, g, d, tk, os⟩ := s
    obtain ⟨hl, hm, he, h⟩ := h
    have f2 := AutoSeq1.sub_tuple_tuple
    have zl : (xs.toList.zip ys.toList).length = min xs.size ys.size := by simp
    wp_walk using wpAny_loadPart' hl, wpAny_loadPart' hm, wpAny_forIn_list _ (fun rest b s' => b.1 = none ∧ s' = ⟨hp, g, d, tk, os⟩ ∧ ∃ i, rest = (xs.toList.zip ys.toList).drop i ∧
      R (.ok (.ret (.bool (!(((List.range (min xs.size ys.size)).drop i).all e && xs.size == ys.size))))) ⟨hp, g, d, tk, os⟩) _
    case turn =>
      rintro ⟨y, x⟩ rest b s' ⟨hb', rfl, i, hz, hR⟩
      have lt : i < (xs.toList.zip ys.toList).length := by
        rcases Nat.lt_or_ge i (xs.toList.zip ys.toList).length with q | q
        · exact q
        · rw [List.drop_of_length_le q] at hz; cases hz
      have lm : i < min xs.size ys.size := zl ▸ lt
      have l1 : i < xs.size := Nat.lt_of_lt_of_le lm (Nat.min_le_left _ _)
      have l2 : i < ys.size := Nat.lt_of_lt_of_le lm (Nat.min_le_right _ _)
      rw [List.drop_eq_getElem_cons lt] at hz
      injection hz with hyx hrest
      obtain ⟨rfl, rfl⟩ : y = xs[i] ∧ x = ys[i] := ⟨by simpa using congrArg Prod.fst hyx, by simpa using congrArg Prod.snd hyx⟩
      have dc : (List.range (min xs.size ys.size)).drop i = i :: (List.range (min xs.size ys.size)).drop (i + 1) := by simp [List.drop_eq_getElem_cons, lm]
      rw [dc, List.all_cons] at hR
      refine wpAny_bind (he i l1 l2 _ _ ?_)
      cases hb : e i with
      | true =>
        rw [hb] at hR
        wp_walk
        exact ⟨rfl, rfl, i + 1, hrest, by simpa using hR⟩
      | false =>
        rw [hb] at hR
        wp_walk
        exact ⟨_, rfl, by simpa using hR⟩
    case fin =>
      rintro ⟨b1, b2⟩ s' ⟨hb', rfl, i, hz, hR⟩
      simp only at hb'
      subst hb'
      have ge : min xs.size ys.size ≤ i := by
        rcases Nat.lt_or_ge i (xs.toList.zip ys.toList).length with q | q
        · rw [List.drop_eq_getElem_cons q] at hz; cases hz
        · exact zl ▸ q
      rw [List.drop_of_length_le (by simpa using ge)] at hR
      wp_walk
      exact ⟨_, rfl, by simpa [Builtin.Tuple.tupleCompareSizes, bne] using hR⟩
    case h =>
      exact ⟨rfl, rfl, 0, rfl, by simpa using h⟩
end
end DL

/-! DL21: the operators == and !=. -/
namespace DL
open L2 PySem PySem.Spec PyProof.Rows PySem.W
section
variable {prog : Program} {w : World} {A : Around} {E : Value → Shared → Prop} {s : Shared}
theorem at_in {n : Nat} {v u : Value} {b : Bool} (t : EqTree prog w s n v u b) (hu : A.units + (n + 1) < cLine) : SeqAt.EqIn prog w A.in1 s v u b := t.at A.in1 (by show A.units + 1 + n < cLine; omega)
theorem nel_run {n : Nat} {l m : Addr} {xs ys : Array Value} {e : Nat → Bool} {Q : Value → Shared → Prop} (hl : s.heap.IsList l xs) (hm : s.heap.IsList m ys) (hz : xs.size = ys.size) (t : ∀ j (h1 : j < xs.size) (h2 : j < ys.size), EqTree prog w s n xs[j] ys[j] (e j)) (hu : A.units + (n + 1) < cLine)
    (h : Q (.bool (!(List.range xs.size).all e)) s) : wpAny (model prog w) A (compareOp .NotEq (.ref l) (.ref m)) Q E s := by
  obtain ⟨⟨c1, d1, da1, s1⟩, ho, hc, k1, hd⟩ := hl
  obtain ⟨⟨c2, d2, da2, s2⟩, ho2, hc2, k2, hd2⟩ := hm
  simp only at hc hd hc2 hd2
  subst hc hd hc2 hd2
  refine wpAny_richCompare_same_room (T := "list") (op := .NotEq) ⟨_, ho, rfl⟩ ⟨_, ho2, rfl⟩ PySem.F.slot_list_ne (call_meetsIn PySem.F.slot_list_ne ⟨_, ho, rfl⟩ PySem.F.entry_list_ne (PySem.F.args_list_ne_2 _ _) (nel_in l m xs ys k1 k2 d1 d2 s1 s2 hz e) ⟨ho, ho2, fun j g1 g2 => at_in (t j g1 g2) hu, ?_⟩) (by omega)
  exact ⟨(fun z => nomatch z), h⟩
theorem net_run {n : Nat} {l m : Addr} {xs ys : Array Value} {e : Nat → Bool} {Q : Value → Shared → Prop} (hl : s.heap.IsTuple l xs) (hm : s.heap.IsTuple m ys) (t : ∀ j (h1 : j < xs.size) (h2 : j < ys.size), EqTree prog w s n xs[j] ys[j] (e j)) (hu : A.units + (n + 1) < cLine)
    (h : Q (.bool (!((List.range (min xs.size ys.size)).all e && xs.size == ys.size))) s) : wpAny (model prog w) A (compareOp .NotEq (.ref l) (.ref m)) Q E s := by
  obtain ⟨⟨c1, d1, da1, s1⟩, ho, hc, k1, hd⟩ := hl
  obtain ⟨⟨c2, d2, da2, s2⟩, ho2, hc2, k2, hd2⟩ := hm
  simp only at hc hd hc2 hd2
  subst hc hd hc2 hd2
  refine wpAny_richCompare_same_room (T := "tuple") (op := .NotEq) ⟨_, ho, rfl⟩ ⟨_, ho2, rfl⟩ PySem.F.slot_tuple_ne (call_meetsIn PySem.F.slot_tuple_ne ⟨_, ho, rfl⟩ PySem.F.entry_tuple_ne (PySem.F.args_tuple_ne_2 _ _) (net_in l m xs ys k1 k2 d1 d2 s1 s2 e) ⟨ho, ho2, fun j g1 g2 => at_in (t j g1 g2) hu, ?_⟩) (by omega)
  exact ⟨(fun z => nomatch z), h⟩
theorem ned_run {K : Type} [DecidableEq K] {knd : PySem.KeyKind prog w K} {n : Nat} {a b : Addr} {ka kb : List (K × Value)} {e : K → Bool} {Q : Value → Shared → Prop} (ha : (a == sysModules) = false) (hb : (b == sysModules) = false) (da : s.heap.DictOf knd a ka) (db : s.heap.DictOf knd b kb)
    (t : ∀ k v y, (k, v) ∈ ka → valueAt kb k = some y → EqTree prog w s n v y (e k)) (hu : A.units + (n + 1) < cLine) (h : Q (.bool (!(ka.length == kb.length && ka.all fun p => (valueAt kb p.1).isSome && e p.1))) s) : wpAny (model prog w) A (compareOp .NotEq (.ref a) (.ref b)) Q E s := by
  refine wpAny_richCompare_same_room (op := .NotEq) da.typeIs db.typeIs PySem.F.slot_dict_ne (wpAny_call_entry PySem.F.slot_dict_ne da.typeIs PySem.F.entry_dict_ne ?_ (PySem.F.args_dict_ne_2 _ _)) (by omega)
  show wpAny _ _ (Builtin.Dict.dictSlotArgs "__ne__" ⟨[.ref a, .ref b], []⟩ >>= _) _ _ s
  refine wpAny_bind (m := Builtin.Dict.dictSlotArgs "__ne__" ⟨[.ref a, .ref b], []⟩) ?_
  unfold Builtin.Dict.dictSlotArgs
  refine wpAny_bind (wpAny_notOrdered_dict da.typeIs (wpAny_pure ?_))
  refine wpAny_bind (wpAny_isInstance (T := "dict") db.typeIs PySem.F.sub_dict_dict ?_)
  simp only [Bool.not_true, Bool.false_eq_true, if_false]
  refine wpAny_bind (wpAny_pure (wpAny_bind (wpAny_pure (wpAny_bind (keq_samePairsIn ha hb da db (fun _ => KeqHitsIn.of _ fun k v y hm hv => at_in (t k v y hm hv) hu) ?_)))))
  refine wpAny_pure ⟨_, rfl, (fun z => nomatch z), ?_⟩
  simpa using h
end
def eqX (d e : D) : Option Bool := eqN 60 d e
section
variable {X : Cx}
theorem eqN_lt {d e : D} {b : Bool} (h : eqN 60 d e = some b) : (∃ p q, d.pd = some p ∧ e.pd = some q ∧ min p.depth q.depth ≤ 60 ∧ b = PyData.eqv p q) ∨ (∃ xs ys, d = .lst xs ∧ e = .lst ys ∧ (if xs.length = ys.length then allO (List.zipWith (eqN 59) xs ys) else some false) = some b) ∨
    (∃ xs ys c, d = .tup xs ∧ e = .tup ys ∧ allO (List.zipWith (eqN 59) xs ys) = some c ∧ b = (c && xs.length == ys.length)) ∨
    (∃ xs ys c, d = .dK xs ∧ e = .dK ys ∧ (xs.map (·.1)).Nodup ∧ (ys.map (·.1)).Nodup ∧ allO (xs.map fun p => match getK ys p.1 with
      | none => some false
      | some y => eqN 59 p.2 y) = some c ∧ b = (xs.length == ys.length && c)) := by
  unfold eqN at h
  split at h
  · cases ‹60 = 0›
  · rename_i n xs ys en
    obtain rfl : n = 59 := by omega
    exact .inr (.inl ⟨xs, ys, rfl, rfl, h⟩)
  · rename_i n xs ys en
    obtain rfl : n = 59 := by omega
    simp only [Option.map_eq_some_iff] at h
    obtain ⟨c, e1, rfl⟩ := h
    exact .inr (.inr (.inl ⟨xs, ys, c, rfl, rfl, e1, rfl⟩))
  · rename_i n xs ys en
    obtain rfl : n = 59 := by omega
    split at h
    · rename_i nd
      simp only [Option.map_eq_some_iff] at h
      obtain ⟨c, e1, rfl⟩ := h
      exact .inr (.inr (.inr ⟨xs, ys, c, rfl, rfl, nd.1, nd.2, e1, rfl⟩))
    · cases h
  · rename_i m en _ _ _
    obtain rfl : m = 59 := by omega
    obtain ⟨p, q, e1, e2, sz, rfl⟩ := leaf_spec h
    exact .inl ⟨p, q, e1, e2, sz, rfl⟩
theorem eq_core (neg : Bool) (hu : X.A.units + 64 < cLine) {pins : List (Addr × Obj)} {σ : Sl} {H : Hp} {s : Shared} {x y : V} {v u : Value} {Q : Value → Shared → Prop} {d e : D} {b : Bool} (I : Inv X pins σ H s) (rx : RelV x v) (ry : RelV y u) (hd : Rv (kw X) H x d) (he : Rv (kw X) H y e) (hF : eqX d e = some b)
    (q : Q (.bool (if neg = true then !b else b)) s) : wpAny (model X.prog X.w) X.A (compareOp (if neg = true then .NotEq else .Eq) v u) Q X.xe s := by
  have ih := eq_tree I 59
  rcases eqN_lt hF with ⟨p, r, e1, e2, sz, rfl⟩ | ⟨xs, ys, rfl, rfl, h⟩ | ⟨xs, ys, c, rfl, rfl, h, rfl⟩ | ⟨xs, ys, c, rfl, rfl, n1, n2, h, rfl⟩
  · obtain ⟨as, g1⟩ := rv_reads I e1 hd rx
    obtain ⟨bs, g2⟩ := rv_reads I e2 he ry
    cases neg
    · exact SeqAt.eq_plain g1 g2 (pd_plain _ _ e1) (pd_plain _ _ e2) (by omega) q
    · exact SeqAt.ne_plain g1 g2 (pd_plain _ _ e1) (pd_plain _ _ e2) (by omega) q
  · obtain ⟨a, vs, rfl, f1, g1⟩ := hd
    obtain ⟨a2, ws, rfl, f2, g2⟩ := he
    cases rx
    cases ry
    obtain ⟨_, its, nn, rv, _, ho⟩ := inv_lst I f1
    obtain ⟨_, its2, nn2, rv2, _, ho2⟩ := inv_lst I f2
    have l1 : its.length = xs.length := by rw [← rv.length, g1.length]
    have l2 : its2.length = ys.length := by rw [← rv2.length, g2.length]
    split at h
    · obtain ⟨t1, rfl⟩ := items_tree I 59 ih h g1 g2 rv rv2
      have sz : its.toArray.size = its2.toArray.size := by simp; omega
      have em : min its.length its2.length = its.toArray.size := by simp; omega
      rw [em] at q
      cases neg
      · exact eq_listsT (n := 59) ⟨_, ho, rfl, nn, rfl⟩ ⟨_, ho2, rfl, nn2, rfl⟩ sz t1 (by omega) q
      · exact nel_run (n := 59) ⟨_, ho, rfl, nn, rfl⟩ ⟨_, ho2, rfl, nn2, rfl⟩ sz t1 (by omega) q
    · cases h
      have sz : (its.toArray.size != its2.toArray.size) = true := by simp; omega
      cases neg
      · exact SeqAt.RcAt.lists_lengths (A := X.A) ⟨_, ho, rfl, nn, rfl⟩ ⟨_, ho2, rfl, nn2, rfl⟩ sz (by omega) _ _ _ _ q
      · exact SeqAt.RcNeAt.lists_lengths (A := X.A) ⟨_, ho, rfl, nn, rfl⟩ ⟨_, ho2, rfl, nn2, rfl⟩ sz (by omega) _ _ _ _ q
  · obtain ⟨a, vs, rfl, f1, g1⟩ := rv_tup hd
    obtain ⟨a2, ws, rfl, f2, g2⟩ := rv_tup he
    cases rx
    cases ry
    obtain ⟨its, rv, pl, _⟩ := I.tuple (SqT.of f1)
    obtain ⟨its2, rv2, pl2, _⟩ := I.tuple (SqT.of f2)
    have l1 : its.length = xs.length := by rw [← rv.length, g1.length]
    have l2 : its2.length = ys.length := by rw [← rv2.length, g2.length]
    obtain ⟨t1, rfl⟩ := items_tree I 59 ih h g1 g2 rv rv2
    rw [← l1, ← l2] at q
    cases neg
    · exact eq_tuplesT (n := 59) pl pl2 t1 (by omega) (by simpa using q)
    · exact net_run (n := 59) pl pl2 t1 (by omega) (by simpa using q)
  · obtain ⟨a, kv, rfl, f1, k1, g1⟩ := hd
    obtain ⟨a2, kv2, rfl, f2, k2, g2⟩ := he
    cases rx
    cases ry
    obtain ⟨_, s1, ka, rel1, dd1⟩ := dk_rd I.hok f1
    obtain ⟨_, s2, kb, rel2, dd2⟩ := dk_rd I.hok f2
    obtain ⟨t1, rfl⟩ := keys_tree I 59 ih n1 h ⟨k1, g1⟩ ⟨k2, g2⟩ rel1 rel2
    have l1 : xs.length = ka.length := by
      have q1 := congrArg List.length k1
      have q2 : kv.length = ka.length := Paired.length rel1
      simp at q1
      omega
    have l2 : ys.length = kb.length := by
      have q1 := congrArg List.length k2
      have q2 : kv2.length = kb.length := Paired.length rel2
      simp at q1
      omega
    rw [l1, l2] at q
    cases neg
    · exact eq_dictsT (n := 59) s1 s2 dd1 dd2 t1 (by omega) q
    · exact ned_run (n := 59) s1 s2 dd1 dd2 t1 (by omega) q
theorem o_eqx (hu : X.A.units + 64 < cLine) : OpR X (compareOp .Eq) (g2 (kw X) (asB eqX false)) := by
  intro pins s σ H x y v u Q I rx ry h
  obtain ⟨d, e, z, hd, he, hF, hp⟩ := h
  simp only [asB, Option.map_eq_some_iff] at hF
  obtain ⟨b, hF, rfl⟩ := hF
  exact eq_core false hu I rx ry hd he hF ⟨.bl _, H, I, rfl, pst_dat hp (.bl _)⟩
theorem o_nex (hu : X.A.units + 64 < cLine) : OpR X (compareOp .NotEq) (g2 (kw X) (asB eqX true)) := by
  intro pins s σ H x y v u Q I rx ry h
  obtain ⟨d, e, z, hd, he, hF, hp⟩ := h
  simp only [asB, Option.map_eq_some_iff] at hF
  obtain ⟨b, hF, rfl⟩ := hF
  exact eq_core true hu I rx ry hd he hF ⟨.bl _, H, I, rfl, pst_dat hp (.bl _)⟩
end
end DL

/-! DL22: repr(x) of data, dicts among them. -/
namespace DL
open L2 PySem PySem.Spec PyProof.Rows

def keyP : Key → PyData
  | .inl i => .int i
  | .inr x => .str x
mutual
def D.px : D → Option PyData
  | .non => some .none
  | .bl b => some (.bool b)
  | .int i => some (.int i)
  | .str x => some (.str x)
  | .lst xs => (D.pxs xs).map .list
  | .tup xs => (D.pxs xs).map .tuple
  | .dK kvs => (D.pxk kvs).map .dict
  | .dT kvs => (D.pxt kvs).map .dict
  | .sS _ => none
  | .dN _ => none
  | .scr _ => none
def D.pxs : List D → Option (List PyData)
  | [] => some []
  | d :: ds => (D.px d).bind fun p => (D.pxs ds).bind fun ps => some (p :: ps)
def D.pxk : List (Key × D) → Option (List (PyData × PyData))
  | [] => some []
  | (k, d) :: ds => (D.px d).bind fun p => (D.pxk ds).bind fun ps => some ((keyP k, p) :: ps)
def D.pxt : List (List Key × D) → Option (List (PyData × PyData))
  | [] => some []
  | (k, d) :: ds => (D.px d).bind fun p => (D.pxt ds).bind fun ps => some ((.tuple (k.map keyP), p) :: ps)
end
theorem pxt_keys : ∀ (kvs : List (List Key × D)) (ps : List (PyData × PyData)), D.pxt kvs = some ps → ps.map (·.1) = kvs.map fun kv => .tuple (kv.1.map keyP)
  | [], ps, h => by cases h; rfl
  | (k, d) :: r, ps, h => by
    simp only [D.pxt, Option.bind_eq_some_iff] at h
    obtain ⟨p, h1, qs, h2, h3⟩ := h
    cases h3
    simp only [List.map_cons, pxt_keys r qs h2]
theorem pxk_keys : ∀ (kvs : List (Key × D)) (ps : List (PyData × PyData)), D.pxk kvs = some ps → ps.map (·.1) = kvs.map fun kv => keyP kv.1
  | [], _, h => by cases h; rfl
  | (k, d) :: r, ps, h => by
    simp only [D.pxk, Option.bind_eq_some_iff] at h
    obtain ⟨p, h1, qs, h2, h3⟩ := h
    cases h3
    simp only [List.map_cons, pxk_keys r qs h2]
section
variable {X : Cx} {pins : List (Addr × Obj)} {σ : Sl} {H : Hp} {s : Shared}
theorem keys_reads {h : Heap} : ∀ (ks : List Key) (vs : List V) (us : List Value) {K : KW} {H : Hp}, Dvs K H vs (ks.map keyD) → Vals vs us → ReadsAll h us (ks.map keyP) []
  | [], _, _, _, _, .nil, .nil => ReadsAll.nil
  | .inl i :: r, _, _, _, _, .cons (.int _) h2, .cons r1 r2 => by
    obtain ⟨t, rfl⟩ := r1
    exact ReadsAll.cons (Reads.int i t) (keys_reads r _ _ h2 r2)
  | .inr i :: r, _, _, _, _, .cons (.str _) h2, .cons r1 r2 => by
    obtain ⟨t, rfl⟩ := r1
    exact ReadsAll.cons (Reads.str i t) (keys_reads r _ _ h2 r2)
theorem RawD.keyV {a : Addr} {es : Array DictEntry} {ep : Nat} {ks vs : List V} (R : RawD s a es ep ks vs) : Vals ks (es.toList.map (·.key)) := by
  refine vals_of_at (by rw [← R.nk, List.length_map, Array.length_toList]) fun j v u e1 e2 => ?_
  rw [List.getElem?_map, Array.getElem?_toList, Option.map_eq_some_iff] at e2
  obtain ⟨e, e3, rfl⟩ := e2
  obtain ⟨hi, rfl⟩ := Array.getElem?_eq_some_iff.mp e3
  obtain ⟨k, v', f1, f2, f3, f4⟩ := R.ent j hi
  rw [e1] at f1
  cases f1
  exact f3
theorem RawD.valV {a : Addr} {es : Array DictEntry} {ep : Nat} {ks vs : List V} (R : RawD s a es ep ks vs) : Vals vs (es.toList.map (·.val)) := by
  refine vals_of_at (by rw [← R.nv, List.length_map, Array.length_toList]) fun j v u e1 e2 => ?_
  rw [List.getElem?_map, Array.getElem?_toList, Option.map_eq_some_iff] at e2
  obtain ⟨e, e3, rfl⟩ := e2
  obtain ⟨hi, rfl⟩ := Array.getElem?_eq_some_iff.mp e3
  obtain ⟨k, v', f1, f2, f3, f4⟩ := R.ent j hi
  rw [e1] at f2
  cases f2
  exact f4
theorem dict_reads {a : Addr} {es : Array DictEntry} {ep : Nat} {ks vs : List V} {kvs : List (Key × D)} {ps : List (PyData × PyData)} {bs : List Addr} (R : RawD s a es ep ks vs) (e : D.pxk kvs = some ps)
    (hk : Dvs (kw X) H ks (kvs.map fun kv => keyD kv.1)) (hv : ReadsAll s.heap (es.toList.map (·.val)) (ps.map (·.2)) bs) (hb : sysModules ∉ bs) : ∃ as, Reads s.heap (.ref a) (.dict ps) as ∧ sysModules ∉ as := by
  obtain ⟨o, h1, h2, h3⟩ : ∃ o, s.heap.get? a = some o ∧ o.cls = .type "dict" ∧ o.data = .dict es ep := by
    obtain ⟨o, h1, h2, h3⟩ := R.raw
    exact ⟨o, h1, h2.1, by first | exact h3 | exact h3.1⟩
  have q := keys_reads (h := s.heap) (kvs.map (·.1)) ks _ (by rw [List.map_map]; exact hk) R.keyV
  have e2 : (kvs.map (·.1)).map keyP = ps.map (·.1) := by rw [pxk_keys kvs ps e, List.map_map]; rfl
  rw [e2] at q
  refine ⟨_, Reads.dict h1 h2 h3 q hv, ?_⟩
  simp only [List.append_nil, List.cons_append, List.mem_cons, not_or]
  refine ⟨fun e3 => ?_, by simpa using hb⟩
  have := R.sys
  rw [← e3] at this
  simp at this
theorem keysT_reads (I : Inv X pins σ H s) : ∀ (ks : List (List Key)) (vs : List V) (us : List Value), Dvs (kw X) H vs (ks.map keysT) → Vals vs us → ReadsAll s.heap us (ks.map fun k => .tuple (k.map keyP)) []
  | [], _, _, .nil, .nil => ReadsAll.nil
  | k :: r, _, _, .cons h1 h2, .cons r1 r2 => by
    obtain ⟨a, vs, rfl, h3, h4⟩ := rv_tup (Dv.rv h1)
    cases r1
    obtain ⟨its, rv, ⟨o, ho, hc, n, hd⟩, _⟩ := I.tuple (SqT.of h3)
    exact ReadsAll.cons (as := []) (bs := []) (Reads.tuple ho hc hd (keys_reads k vs _ h4 rv)) (keysT_reads I r _ _ h2 r2)
theorem dictT_reads (I : Inv X pins σ H s) {a : Addr} {es : Array DictEntry} {ep : Nat} {ks vs : List V} {kvs : List (List Key × D)} {ps : List (PyData × PyData)} {bs : List Addr} (R : RawD s a es ep ks vs) (e : D.pxt kvs = some ps)
    (hk : Dvs (kw X) H ks (kvs.map fun kv => keysT kv.1)) (hv : ReadsAll s.heap (es.toList.map (·.val)) (ps.map (·.2)) bs) (hb : sysModules ∉ bs) : ∃ as, Reads s.heap (.ref a) (.dict ps) as ∧ sysModules ∉ as := by
  obtain ⟨o, h1, h2, h3⟩ : ∃ o, s.heap.get? a = some o ∧ o.cls = .type "dict" ∧ o.data = .dict es ep := by
    obtain ⟨o, h1, h2, h3⟩ := R.raw
    exact ⟨o, h1, h2.1, by first | exact h3 | exact h3.1⟩
  have q := keysT_reads I (kvs.map (·.1)) ks _ (by rw [List.map_map]; exact hk) R.keyV
  have e2 : (kvs.map (·.1)).map (fun k => PyData.tuple (k.map keyP)) = ps.map (·.1) := by rw [pxt_keys kvs ps e, List.map_map]; rfl
  rw [e2] at q
  refine ⟨_, Reads.dict h1 h2 h3 q hv, ?_⟩
  simp only [List.append_nil, List.cons_append, List.mem_cons, not_or]
  refine ⟨fun e3 => ?_, by simpa using hb⟩
  have := R.sys
  rw [← e3] at this
  simp at this
mutual
theorem dv_px (I : Inv X pins σ H s) (hs : H sysModules = none) : ∀ (d : D) (p : PyData) (v : V) (u : Value), d.px = some p → Dv (kw X) H v d → RelV v u → ∃ as, Reads s.heap u p as ∧ sysModules ∉ as
  | .non, _, _, _, h, .non, r => by
    cases h
    cases r
    exact ⟨_, Reads.none, by simp⟩
  | .bl b, _, _, _, h, .bl _, r => by
    cases h
    cases r
    exact ⟨_, Reads.bool b, by simp⟩
  | .int b, _, _, _, h, .int _, r => by
    cases h
    obtain ⟨t, rfl⟩ := r
    exact ⟨_, Reads.int b t, by simp⟩
  | .str b, _, _, _, h, .str _, r => by
    cases h
    obtain ⟨t, rfl⟩ := r
    exact ⟨_, Reads.str b t, by simp⟩
  | .lst xs, _, _, _, h, .lst (a := a) h1 h2, r => by
    simp only [D.px, Option.map_eq_some_iff] at h
    obtain ⟨ps, e, rfl⟩ := h
    cases r
    obtain ⟨_, its, n, rv, _, ho⟩ := inv_lst I h1.rd
    obtain ⟨as, q, nm⟩ := dvs_px I hs xs ps _ its e h2 rv
    refine ⟨_, Reads.list ho rfl rfl q, ?_⟩
    simp only [List.mem_cons, not_or]
    refine ⟨fun e3 => ?_, nm⟩
    obtain ⟨o, h1⟩ := h1
    rw [← e3, hs] at h1
    cases h1
  | .tup xs, _, _, _, h, .tup h1 h2, r => by
    simp only [D.px, Option.map_eq_some_iff] at h
    obtain ⟨ps, e, rfl⟩ := h
    cases r
    obtain ⟨its, rv, ⟨o, ho, hc, n, hd⟩, _⟩ := I.tuple (SqT.of h1)
    obtain ⟨as, q, nm⟩ := dvs_px I hs xs ps _ its e h2 rv
    exact ⟨_, Reads.tuple ho hc hd q, nm⟩
  | .dK kvs, _, _, _, h, .dK h1 h2 h3, r => by
    simp only [D.px, Option.map_eq_some_iff] at h
    obtain ⟨ps, e, rfl⟩ := h
    cases r
    obtain ⟨a, es, ep, ks, vs, e1, R, q1, q2⟩ := raw_of I (Dv.rv (Dv.dK h1 h2 h3)) (d := .dK kvs) rfl
    cases e1
    obtain ⟨bs, q, nm⟩ := dvk_px I hs kvs ps _ _ e q2 R.valV
    exact dict_reads R e q1 q nm
  | .dT kvs, _, _, _, h, .dT h1 h2 h3, r => by
    simp only [D.px, Option.map_eq_some_iff] at h
    obtain ⟨ps, e, rfl⟩ := h
    cases r
    obtain ⟨a, es, ep, ks, vs, e1, R, q1, q2⟩ := raw_of I (Dv.rv (Dv.dT h1 h2 h3)) (d := .dT kvs) rfl
    cases e1
    obtain ⟨bs, q, nm⟩ := dvt_px I hs kvs ps _ _ e q2 R.valV
    exact dictT_reads I R e q1 q nm
theorem dvs_px (I : Inv X pins σ H s) (hs : H sysModules = none) : ∀ (ds : List D) (ps : List PyData) (vs : List V) (us : List Value), D.pxs ds = some ps → Dvs (kw X) H vs ds → Vals vs us → ∃ as, ReadsAll s.heap us ps as ∧ sysModules ∉ as
  | [], _, _, _, h, .nil, r => by
    cases h
    cases r
    exact ⟨_, ReadsAll.nil, by simp⟩
  | d :: ds, _, _, _, h, .cons h1 h2, r => by
    simp only [D.pxs, Option.bind_eq_some_iff] at h
    obtain ⟨p, e1, qs, e2, e3⟩ := h
    cases e3
    cases r with
    | cons r1 r2 =>
      obtain ⟨as, q1, n1⟩ := dv_px I hs d p _ _ e1 h1 r1
      obtain ⟨bs, q2, n2⟩ := dvs_px I hs ds qs _ _ e2 h2 r2
      exact ⟨_, ReadsAll.cons q1 q2, by simp [n1, n2]⟩
theorem dvk_px (I : Inv X pins σ H s) (hs : H sysModules = none) : ∀ (kvs : List (Key × D)) (ps : List (PyData × PyData)) (vs : List V) (us : List Value), D.pxk kvs = some ps → Dvs (kw X) H vs (kvs.map (·.2)) → Vals vs us → ∃ as, ReadsAll s.heap us (ps.map (·.2)) as ∧ sysModules ∉ as
  | [], _, _, _, h, .nil, r => by
    cases h
    cases r
    exact ⟨_, ReadsAll.nil, by simp⟩
  | (k, d) :: ds, _, _, _, h, .cons h1 h2, r => by
    simp only [D.pxk, Option.bind_eq_some_iff] at h
    obtain ⟨p, e1, qs, e2, e3⟩ := h
    cases e3
    cases r with
    | cons r1 r2 =>
      obtain ⟨as, q1, n1⟩ := dv_px I hs d p _ _ e1 h1 r1
      obtain ⟨bs, q2, n2⟩ := dvk_px I hs ds qs _ _ e2 h2 r2
      exact ⟨_, ReadsAll.cons q1 q2, by simp [n1, n2]⟩
theorem dvt_px (I : Inv X pins σ H s) (hs : H sysModules = none) : ∀ (kvs : List (List Key × D)) (ps : List (PyData × PyData)) (vs : List V) (us : List Value), D.pxt kvs = some ps → Dvs (kw X) H vs (kvs.map (·.2)) → Vals vs us → ∃ as, ReadsAll s.heap us (ps.map (·.2)) as ∧ sysModules ∉ as
  | [], _, _, _, h, .nil, r => by
    cases h
    cases r
    exact ⟨_, ReadsAll.nil, by simp⟩
  | (k, d) :: ds, _, _, _, h, .cons h1 h2, r => by
    simp only [D.pxt, Option.bind_eq_some_iff] at h
    obtain ⟨p, e1, qs, e2, e3⟩ := h
    cases e3
    cases r with
    | cons r1 r2 =>
      obtain ⟨as, q1, n1⟩ := dv_px I hs d p _ _ e1 h1 r1
      obtain ⟨bs, q2, n2⟩ := dvt_px I hs ds qs _ _ e2 h2 r2
      exact ⟨_, ReadsAll.cons q1 q2, by simp [n1, n2]⟩
end
theorem rv_px (I : Inv X pins σ H s) (hs : H sysModules = none) {d : D} {p : PyData} {v : V} {u : Value} (e : d.px = some p) (h : Rv (kw X) H v d) (r : RelV v u) : ∃ as, Reads s.heap u p as ∧ sysModules ∉ as := by
  cases d with
  | lst xs =>
    obtain ⟨a, vs, rfl, h1, h2⟩ := h
    simp only [D.px, Option.map_eq_some_iff] at e
    obtain ⟨ps, e, rfl⟩ := e
    cases r
    obtain ⟨_, its, n, rv, _, ho⟩ := inv_lst I h1
    obtain ⟨as, q, nm⟩ := dvs_px I hs xs ps _ its e h2 rv
    refine ⟨_, Reads.list ho rfl rfl q, ?_⟩
    simp only [List.mem_cons, not_or]
    refine ⟨fun e3 => ?_, nm⟩
    rcases h1 with h1 | ⟨o, h1⟩
    · rw [← e3, hs] at h1
      cases h1
    · rw [← e3, hs] at h1
      cases h1
  | dK kvs =>
    simp only [D.px, Option.map_eq_some_iff] at e
    obtain ⟨ps, e, rfl⟩ := e
    obtain ⟨a, es, ep, ks, vs, rfl, R, q1, q2⟩ := raw_of I h rfl
    cases r
    obtain ⟨bs, q, nm⟩ := dvk_px I hs kvs ps _ _ e q2 R.valV
    exact dict_reads R e q1 q nm
  | dT kvs =>
    simp only [D.px, Option.map_eq_some_iff] at e
    obtain ⟨ps, e, rfl⟩ := e
    obtain ⟨a, es, ep, ks, vs, rfl, R, q1, q2⟩ := raw_of I h rfl
    cases r
    obtain ⟨bs, q, nm⟩ := dvt_px I hs kvs ps _ _ e q2 R.valV
    exact dictT_reads I R e q1 q nm
  | sS _ => cases e
  | dN _ => cases e
  | scr _ => cases e
  | non => exact dv_px I hs _ _ _ _ e h r
  | bl _ => exact dv_px I hs _ _ _ _ e h r
  | int _ => exact dv_px I hs _ _ _ _ e h r
  | str _ => exact dv_px I hs _ _ _ _ e h r
  | tup _ => exact dv_px I hs _ _ _ _ e h r
def reprF : List D → Option SV
  | [d] => (D.px d).bind fun p => if p.showable = true ∧ p.depth < 63 ∧ p.shown.length ≤ sizeLine then some (.dat (.str p.shown)) else none
  | _ => none
theorem c_repr (hg : X.A.guards = some []) (hu : X.A.units + 64 < cLine) (hb : ∃ o, X.base.get? sysModules = some o) : CallR X (.builtin "repr") (gN (kw X) reprF) := by
  intro pins s σ H xs us Q I r h
  obtain ⟨ds, z, hd, hF, hp⟩ := h
  unfold reprF at hF
  split at hF
  · simp only [Option.bind_eq_some_iff] at hF
    obtain ⟨p, e, hF⟩ := hF
    split at hF
    · rename_i c
      obtain ⟨c1, c2, c3⟩ := c
      cases hF
      obtain ⟨x, rfl, h1⟩ := rvs1 hd
      obtain ⟨u, rfl, rx⟩ := vals1 r
      obtain ⟨o, hb⟩ := hb
      obtain ⟨as, q, nm⟩ := rv_px I (I.bs _ o hb).2 e h1 rx
      have fin : ∀ (h' : Heap) (tk t : Nat), (∀ b o, s.heap.get? b = some o → h'.get? b = some o) → EP X pins σ Q (.str p.shown t) { s with heap := h', toks := tk } := fun h' tk t k => ⟨.str p.shown, H, I.kept k, ⟨t, rfl⟩, pst_dat hp (.str _)⟩
      cases q with
      | none => exact P.repr_of_none (fin s.heap _ _ fun _ _ h => h)
      | bool b => exact P.repr_of_bool (by simpa only [PyData.shown] using fin s.heap (s.toks + 1) s.toks fun _ _ h => h)
      | int i t => exact P.repr_of_int (by simpa [PyData.showable] using c1) (by simpa only [PyData.shown] using fin s.heap (s.toks + 1) s.toks fun _ _ h => h)
      | str i t => exact P.repr_of_str (by simpa only [PyData.shown] using fin s.heap (s.toks + 1) s.toks fun _ _ h => h) (by simpa only [PyData.shown] using c3)
      | list a b c' d' => exact repr_of_reads' (Reads.list a b c' d') c1 (fun _ => nm) hg (by omega) (fun _ _ h => h) (fun h' u tk k => fin h' tk u k) c3
      | tuple a b c' d' => exact repr_of_reads' (Reads.tuple a b c' d') c1 (fun _ => nm) hg (by omega) (fun _ _ h => h) (fun h' u tk k => fin h' tk u k) c3
      | dict a b c' d' e' => exact repr_of_reads' (Reads.dict a b c' d' e') c1 (fun _ => nm) hg (by omega) (fun _ _ h => h) (fun h' u tk k => fin h' tk u k) c3
    · cases hF
  · cases hF
end
end DL

/-! DL23: list(d.values()), list(d.items()), sum(d.values()). -/
namespace DL
open L2 PySem PySem.Spec PyProof.Rows PySem.W

def listvF (fe : FE) : FE := fun ρ => (fe ρ).bind fun p => (rd p.2 p.1).bind fun d => (dictD d).bind fun kv => some (.own (.ml kv.2), p.2)
def sumvF (fe : FE) : FE := fun ρ => (fe ρ).bind fun p => (rd p.2 p.1).bind fun d => (dictD d).bind fun kv => (intsOf kv.2).bind fun ns => some (.dat (.int ns.sum), p.2)
def pairD (kv : Key × D) : D := .tup [keyD kv.1, kv.2]
def listiF (fe : FE) : FE := fun ρ => (fe ρ).bind fun p => (rd p.2 p.1).bind fun d => match d with
  | .dK kvs => some (.own (.ml (kvs.map pairD)), p.2)
  | _ => none
section
variable {X : Cx} {R : List Nat} {e : Expr} {fe : FE} {p apos cpos pos : Pos}
theorem pre_sum : ∀ ns : List Int, preSum (fun i => ns.getD i 0) ns.length = ns.sum
  | [] => rfl
  | n :: r => by
    rw [List.length_cons, kdu_shift, List.sum_cons, ← pre_sum r]
    rfl
theorem ev_values {pins : List (Addr × Obj)} {σ : Sl} {H : Hp} {s : Shared} {ρ ρ' : EnvD} {r : RV} {d : D} {kd vd : List D} (he : DE X R e fe) (I : Inv X pins σ H s) (ok : EnvOk (kw X) H σ ρ) (q : fe ρ = some (r, ρ')) (q2 : rd ρ' r = some d) (q3 : dictD d = some (kd, vd))
    (hbase : attributeBase e "values" X.env (eval e X.env) = eval e X.env) (hline : (apos.endLine == cpos.line) = true) :
    wpAny (model X.prog X.w) X.A (eval (.Call (.Attribute e "values" apos) [] [] cpos) X.env) (fun u s' => ∃ g a es ep ks vs H', u = Value.ref g ∧ Inv X pins σ H' s' ∧ Kp R σ ρ H ρ' H' ∧ EnvOk (kw X) H' σ ρ' ∧ s'.heap.IsValuesView g a ∧ RawD s' a es ep ks vs ∧ Dvs (kw X) H' vs vd) X.xe s := by
  refine wpAny_Call_method (T := "dict") (id := "dict.values") hbase rfl hline F.plainAttrs_dict F.slot_dict_values F.type_dict_values (thn (tE_run he I ok q) fun u s1 ⟨x, H1, I1, rx, k1, ok1, o1⟩ => ?_)
  obtain ⟨a, es, ep, ks, vs, rfl, RW, h1, h2⟩ := raw_of I1 (RvOk.rd o1 ok1 q2) q3
  cases rx
  have ty : s1.TypeIs (.ref a) "dict" := RW.raw.typeIs
  refine ⟨ty, ?_, ?_⟩
  · intro b eb
    cases eb
    obtain ⟨o, g1, g2, _⟩ := RW.raw
    exact ⟨o, g1, g2.2.1⟩
  · refine Calls.callWith_builtin rfl (PySem.evalArgs_none ?_)
    refine call_meetsIn F.slot_dict_values ty F.entry_dict_values (F.args_dict_values_1 _) (meets_dict_values_raw a RW.sys) ⟨⟨es, ep, RW.raw⟩, ?_⟩
    have kp : ∀ b o, s1.heap.get? b = some o → (s1.heap.push { cls := .type "dict_values", data := .fields #[.ref a] }).get? b = some o := fun b o z => Heap.get?_push_of_some _ z
    exact ⟨_, a, es, ep, ks, vs, H1, rfl, I1.kept kp (t' := s1.toks), k1, ok1, ⟨_, Heap.get?_push_size _ rfl, rfl, rfl⟩, ⟨RW.sys, RW.raw.push _, RW.nk, RW.nv, RW.few, RW.ent⟩, h2⟩
theorem de_listv (hc : X.calm = true) (hu : X.A.units + 64 < cLine) (he : DE X R e fe) (hg : Gl X "list") (hm : X.mg "list" = none) (hv : bootBuiltins "list" = some (.type "list") := by decide +kernel) (hbase : attributeBase e "values" X.env (eval e X.env) = eval e X.env := by rfl) (hline : (apos.endLine == cpos.line) = true := by rfl)
    (hs : starEach [.Call (.Attribute e "values" apos) [] [] cpos] X.env = (false, eval (.Call (.Attribute e "values" apos) [] [] cpos) X.env) :: starEach [] X.env := by rfl) : DE X R (.Call (.Name "list" p) [.Call (.Attribute e "values" apos) [] [] cpos] [] pos) (listvF fe) := by
  refine ⟨fun pins s σ H Q I hq => ?_⟩
  obtain ⟨ρ, r', ρ', ok, q, k⟩ := hq
  simp only [listvF, Option.bind_eq_some_iff] at q
  obtain ⟨⟨r, ρ1⟩, q1, d, q2, ⟨kd, vd⟩, q3, q4⟩ := q
  cases q4
  refine wpAny_Call_Name_kw (ld_blt I hg hm hv ?_)
  rw [hs]
  refine PySem.callWith_type1 ?_
  refine thn (ev_values he I ok q1 q2 q3 hbase hline) fun u s1 ⟨g, a, es, ep, ks, vs, H1, eu, I1, k1, ok1, vw, RW, h2⟩ => ?_
  subst eu
  have hn := I1.hok.fresh (Nat.le_refl s1.heap.objs.size)
  refine PySem.W.kdl_call KdlSrc.rawValues (I.ok.hd hc) ⟨vw, RW.raw⟩ RW.few fun h' tk acc c kk e2 it => ?_
  refine lst_fin I1 kk (Nat.le_refl _) e2 (raw_vals RW it) h2 (by rw [← h2.length, ← RW.nv]; exact RW.few) fun v H2 sm fr => ?_
  exact k v H2 (k1.trans (Kp.same sm)) (ok1.same sm) (fr.rvOk ok1 fun b hb => k1.trk b hb)
theorem de_sumv (hc : X.calm = true) (hu : X.A.units + 64 < cLine) (he : DE X R e fe) (hg : Gl X "sum") (hm : X.mg "sum" = none) (hv : bootBuiltins "sum" = some (.builtin "sum") := by decide +kernel) (hbase : attributeBase e "values" X.env (eval e X.env) = eval e X.env := by rfl) (hline : (apos.endLine == cpos.line) = true := by rfl)
    (hs : starEach [.Call (.Attribute e "values" apos) [] [] cpos] X.env = (false, eval (.Call (.Attribute e "values" apos) [] [] cpos) X.env) :: starEach [] X.env := by rfl) : DE X R (.Call (.Name "sum" p) [.Call (.Attribute e "values" apos) [] [] cpos] [] pos) (sumvF fe) := by
  refine ⟨fun pins s σ H Q I hq => ?_⟩
  obtain ⟨ρ, r', ρ', ok, q, k⟩ := hq
  simp only [sumvF, Option.bind_eq_some_iff] at q
  obtain ⟨⟨r, ρ1⟩, q1, d, q2, ⟨kd, vd⟩, q3, ns, q4, q5⟩ := q
  cases q5
  refine wpAny_Call_Name_kw (ld_blt I hg hm hv ?_)
  rw [hs]
  refine PySem.callWith_builtin1 ?_
  refine thn (ev_values he I ok q1 q2 q3 hbase hline) fun u s1 ⟨g, a, es, ep, ks, vs, H1, eu, I1, k1, ok1, vw, RW, h2⟩ => ?_
  subst eu
  rw [show vd = ns.map D.int from intsOf_eq q4] at h2
  have ev := Dvs.ints_inv h2
  subst ev
  have K := KdlSrc.rawValues (prog := X.prog) (w := X.w) (r := g) (d := a) (es := es) (ep := ep)
  have hok : s1.heap.IsValuesView g a ∧ s1.heap.DictRaw a es ep := ⟨vw, RW.raw⟩
  refine call_sum_walkAnyS ?_
  obtain ⟨oI, St, hit, W, st⟩ := K.iter X.A.in1 s1 (I.ok.hd hc) hok
  have el : es.size = ns.length := by rw [RW.nv, List.length_map]
  refine hit _ _ ⟨s1.heap.objs.size, _, _, _, es.size, _, _, fun i => ns.getD i 0, rfl, W.toS, st, fun b hb => ?_, ?_, fun s' t' hm' => ?_⟩
  · have l := (K.there _ hok)
    have z : (s1.heap.push oI).objs.size = s1.heap.objs.size + 1 := Heap.size_push _ _
    show b < (s1.heap.push oI).objs.size
    rw [z]
    rcases List.mem_cons.mp hb with e1 | hb
    · exact e1 ▸ Nat.lt_succ_self _
    · exact List.mem_singleton.mp hb ▸ Nat.lt_succ_of_lt l.2
  · rintro i v ⟨hi, rfl⟩
    obtain ⟨_, v', f1, f2, f3, f4⟩ := RW.ent i hi
    rw [List.getElem?_map, Option.map_eq_some_iff] at f2
    obtain ⟨n, f5, rfl⟩ := f2
    obtain ⟨t, f6⟩ := f4
    exact ⟨t, by rw [f6]; show Value.int n t = Value.int (ns.getD i 0) t; rw [List.getD_eq_getElem?_getD, f5]; rfl⟩
  · have kk : ∀ b o, s1.heap.get? b = some o → s'.heap.get? b = some o := fun b o z => hm'.heap b o (fun hI => absurd (Heap.lt_size z) (by rw [List.mem_singleton.mp hI]; exact Nat.lt_irrefl _)) (Heap.get?_push_of_some _ z)
    rw [Moved.eq_with hm', el, pre_sum]
    exact ⟨.int ns.sum, H1, I1.kept kk, ⟨t', rfl⟩, k _ H1 k1 ok1 (.int _)⟩
theorem dvs_pairs {K : KW} {H H' : Hp} (sm : Fz H H') : ∀ {ts : List Addr} {kv : List (Key × V)} {kvs : List (Key × D)}, Paired (fun (t : Addr) (q : Key × V) => H' t = some (.tup [kV q.1, q.2])) ts kv → kv.map (·.1) = kvs.map (·.1) → Dvs K H (kv.map (·.2)) (kvs.map (·.2)) → Dvs K H' (ts.map V.ref) (kvs.map pairD)
  | [], [], [], .nil, _, _ => .nil
  | [], [], q :: r, .nil, h, _ => by simp at h
  | _ :: _, p :: kv, [], _, h, _ => by simp at h
  | t :: ts, p :: kv, q :: kvs, .cons a b, h, h2 => by
    simp only [List.map_cons, List.cons.injEq] at h h2
    cases h2 with
    | cons d1 d2 =>
      refine .cons (.tup a (.cons ?_ (.cons (d1.mono sm) .nil))) (dvs_pairs sm b h.2 d2)
      rw [← h.1]
      cases p.1 with
      | inl i => exact .int i
      | inr i => exact .str i
theorem de_listi (hc : X.calm = true) (hu : X.A.units + 64 < cLine) (he : DE X R e fe) (hg : Gl X "list") (hm : X.mg "list" = none) (hv : bootBuiltins "list" = some (.type "list") := by decide +kernel) (hbase : attributeBase e "items" X.env (eval e X.env) = eval e X.env := by rfl) (hline : (apos.endLine == cpos.line) = true := by rfl)
    (hs : starEach [.Call (.Attribute e "items" apos) [] [] cpos] X.env = (false, eval (.Call (.Attribute e "items" apos) [] [] cpos) X.env) :: starEach [] X.env := by rfl) : DE X R (.Call (.Name "list" p) [.Call (.Attribute e "items" apos) [] [] cpos] [] pos) (listiF fe) := by
  refine ⟨fun pins s σ H Q I hq => ?_⟩
  obtain ⟨ρ, r', ρ', ok, q, k⟩ := hq
  simp only [listiF, Option.bind_eq_some_iff] at q
  obtain ⟨⟨r, ρ1⟩, q1, d, q2, q3⟩ := q
  split at q3
  · rename_i kvs
    cases q3
    refine wpAny_Call_Name_kw (ld_blt I hg hm hv ?_)
    rw [hs]
    refine PySem.callWith_type1 ?_
    refine wpAny_Call_method (T := "dict") (id := "dict.items") hbase rfl hline F.plainAttrs_dict F.slot_dict_items F.type_dict_items (thn (tE_run he I ok q1) fun u s1 ⟨x, H1, I1, rx, k1, ok1, o1⟩ => ?_)
    obtain ⟨a, kv, rfl, h1, h2, h3⟩ := RvOk.rd o1 ok1 q2
    cases rx
    obtain ⟨hz, hsy, vs, rel, dd⟩ := dk_rd I1.hok h1
    obtain ⟨ep, hat⟩ := dd.dictAt
    have lk : kv.length = vs.length := Paired.length rel
    have I2 : Inv X pins σ H1 { s1 with heap := s1.heap.push { cls := .type "dict_items", data := .fields #[.ref a] } } := I1.kept (t' := s1.toks) fun b ob z => Heap.get?_push_of_some _ z
    refine ⟨dd.typeIs, dd.mapOf.noDict, ?_⟩
    refine Calls.callWith_builtin rfl (PySem.evalArgs_none ?_)
    refine call_meetsIn F.slot_dict_items dd.typeIs F.entry_dict_items (F.args_dict_items_1 _) (meets_dict_items (mixKind X.prog X.w) a hsy) ⟨⟨vs, dd⟩, ?_⟩
    refine PySem.W.kdx_call (knd := mixKind X.prog X.w) (kvs := vs) (ep := ep) (I1.ok.hd hc) ⟨_, Heap.get?_push_size _ rfl, rfl, rfl⟩ (hat.push _) (by omega) fun h' tk acc c as hk hS hl hG hacc => ?_
    obtain ⟨H', k1', k2', k3', k4', k5', k6', J⟩ := LiI.items_laid (tk := tk) I2 hz rel hk hS hl hG hacc
    have sm : Same H1 H' := k1'
    refine ⟨.ref _, H', J, rfl, k _ H' (k1.trans (Kp.same sm)) (ok1.same sm) ?_⟩
    exact Fr.rvOk (z := .own (.ml (kvs.map pairD))) ⟨_, rfl, k2', _, k5', dvs_pairs (Fz.of_same sm) k6' h2 h3⟩ ok1 fun b hb => k1.trk b hb
  · cases q3
end
end DL

/-! DL24: {**a, **b}. -/
namespace DL
open L2 PySem PySem.Spec PyProof.Rows PySem.W

section
variable {P : Program} {w : World} {A : Around} {E : Value → Shared → Prop} {s : Shared} {κ : Type} [DecidableEq κ] {kn : KeyKind P w κ}
theorem dput {d : Addr} {kvs : List (κ × Value)} {k : κ} {key v : Value} {Q : Unit → Shared → Prop} (hkey : kn.is k key = true) (hm : s.heap.DictOf kn d kvs) (hsz : kvs.length ≤ sizeLine)
    (hQ : ∀ h', h'.DictOf kn d (stored kvs k v) → Heap.SameBut d s.heap h' → Q () { s with heap := h' }) : wpAny (model P w) A (dictPut d (kn.hash k) key v) Q E s := by
  obtain ⟨o, es, ep, ho, hc, hd, hk, hp, hn⟩ := hm
  have he : es.size ≤ sizeLine := by
    have e1 := hp.length
    rw [Array.length_toList] at e1
    omega
  unfold dictPut
  refine wpAny_bind (wpAny_dictFind_of hkey ho hd hk ?_)
  have hix : (es.findIdx? fun e => kn.is k e.key) = kvs.findIdx? fun kv => decide (kv.1 = k) := by
    rw [← hp.findIdx k]
    obtain ⟨l⟩ := es
    simp
  cases hi : es.findIdx? fun e => kn.is k e.key with
  | some i =>
    have hany := any_of_findIdx_some (hix ▸ hi)
    refine wpAny_updateDict ho hd (hQ _ ⟨_, _, ep, Heap.get?_update_self _ ho (Obj.isFreed_of_dict (Obj.data_mapDict hd _)), hc.mapDict _, Obj.data_mapDict hd _, hk.modify _ _, ?_, ?_⟩ (Heap.SameBut.update ..))
    · rw [stored, if_pos hany]
      have hl : (es.toList.findIdx? fun e => kn.is k e.key) = some i := by
        rw [← hi]
        obtain ⟨l⟩ := es
        simp
      have z := hp.modify hn hl v
      obtain ⟨l⟩ := es
      simpa using z
    · rw [stored, if_pos hany, keys_map_store]
      exact hn
  | none =>
    have hnot : k ∉ kvs.map (·.1) := not_mem_of_findIdx_none (hix ▸ hi)
    have hany : ¬ (kvs.any fun kv => decide (kv.1 = k)) = true := fun z => by
      obtain ⟨kv, h1, h2⟩ := List.any_eq_true.mp z
      exact hnot (List.mem_map.mpr ⟨kv, h1, of_decide_eq_true h2⟩)
    refine wpAny_updateDictKeys (hz := he) ho hd (hQ _ ⟨_, _, ep + 1, Heap.get?_update_self _ ho (Obj.isFreed_of_dict (Obj.data_mapDictKeys hd _)), hc.mapDictKeys _, Obj.data_mapDictKeys hd _, hk.push hkey _, ?_, ?_⟩ (Heap.SameBut.update ..))
    · rw [stored, if_neg hany]
      have z := hp.append hkey (kn.hash k) v
      obtain ⟨l⟩ := es
      simpa using z
    · rw [stored, if_neg hany, List.map_append, List.nodup_append]
      exact ⟨hn, by simp, fun a ha b hb z => hnot (by rw [List.map_cons, List.map_nil, List.mem_singleton] at hb; exact (show a = k from z.trans hb) ▸ ha)⟩
theorem merge_map {d o : Addr} {kvs more : List (κ × Value)} {Q : Unit → Shared → Prop} (hdo : d ≠ o) (hS : (o == sysModules) = false) (hd : s.heap.DictOf kn d kvs) (ho : s.heap.DictOf kn o more) (hz : kvs.length + more.length ≤ sizeLine)
    (hQ : ∀ h', h'.DictOf kn d (merged kvs more) → Heap.SameBut d s.heap h' → Q () { s with heap := h' }) : wpAny (model P w) A (mergeMapping d (.ref o) false) Q E s := by
  obtain ⟨od, esd, epd, hod, hcd, hdd, hkd, hpd, hnd⟩ := id hd
  obtain ⟨oo, eso, epo, hoo, hco, hdo', hko, hpo, hno⟩ := id ho
  have hlen : more.length = eso.size := by
    rw [← hpo.length]
    simp
  unfold mergeMapping
  refine wpAny_bind (wpAny_isInstance (T := "dict") (b := true) ho.typeIs (by first | exact F.sub_dict_dict | kernel_rfl) ?_)
  rw [if_pos rfl]
  refine wpAny_bind (wpAny_specialOf ho.typeIs F.slot_dict_iter.lookup (wpAny_bind (wpAny_pure ?_)))
  rw [show (some (Value.builtin "dict.__iter__") == some (Value.builtin "dict.__iter__")) = true from by first | rfl | decide | simp]
  have loop : wpAny (model P w) A (do
      let l ← dictEntries o
      let epoch ← dictEpoch o
      forIn (List.range l.size) PUnit.unit fun i (_ : PUnit) => (do
          let l' ← dictEntries o
          match l'[i]? with
            | some e => do
              holding [e.key, e.val] (dictPut d e.hash e.key e.val)
              let ep' ← dictEpoch o
              if (ep' != epoch) = true then do
                  (unsupported "dict.changed-during-merge" : Sem PUnit)
                  pure (ForInStep.yield PUnit.unit)
                else pure (ForInStep.yield PUnit.unit)
            | _ => do
              (unsupported "dict.changed-during-merge" : Sem PUnit)
              pure (ForInStep.yield PUnit.unit) : Sem (ForInStep PUnit))
      pure ()) Q E s := by
    refine wpAny_bind (wpAny_dictEntries hoo hdo' ?_)
    refine wpAny_bind (wpAny_dictEpoch hoo hdo' ?_)
    refine wpAny_bind ?_
    rw [List.range_eq_range']
    refine wpAny_forIn_list _ (fun rest _ t => ∃ h' i, t = { s with heap := h' } ∧ rest = List.range' i (eso.size - i) ∧ i ≤ eso.size ∧ h'.DictOf kn d (merged kvs (more.take i)) ∧ h'.get? o = some oo ∧ Heap.SameBut d s.heap h') _ ?_ ?_ _ _ ⟨s.heap, 0, rfl, by simp, Nat.zero_le _, by simpa [merged] using hd, hoo, Heap.SameBut.refl _ _⟩
    · rintro x rest b t ⟨h', i, rfl, hr, hi, hd', hoo', hs'⟩
      have hlt : i < eso.size := by
        rcases Nat.lt_or_ge i eso.size with h | h
        · exact h
        · rw [Nat.sub_eq_zero_of_le h] at hr
          simp at hr
      obtain ⟨rfl, hrest⟩ : x = i ∧ rest = List.range' (i + 1) (eso.size - (i + 1)) := by
        rw [show eso.size - i = (eso.size - (i + 1)) + 1 by omega, List.range'_succ] at hr
        injection hr with h1 h2
        exact ⟨h1, h2⟩
      refine wpAny_bind (wpAny_dictEntries hoo' hdo' ?_)
      rw [Array.getElem?_eq_getElem hlt]
      obtain ⟨⟨k, v⟩, hkv⟩ : ∃ kv, more[x]? = some kv := ⟨more[x]'(by rw [hlen]; exact hlt), List.getElem?_eq_getElem _⟩
      obtain ⟨hkey, hval⟩ := hpo.get? (e := eso[x]) (by simp [hlt]) hkv
      obtain ⟨k', hkey', hhash⟩ := hko eso[x] (Array.getElem_mem hlt)
      obtain rfl : k' = k := kn.inj _ _ _ hkey' hkey
      show wpAny _ _ (holding [eso[x].key, eso[x].val] (dictPut d eso[x].hash eso[x].key eso[x].val) >>= _) _ _ _
      rw [hhash, hval]
      have hmx : (merged kvs (more.take x)).length ≤ sizeLine := by
        have e1 := merged_length_le kvs (more.take x)
        rw [List.length_take] at e1
        omega
      refine wpAny_bind (wpAny_holding (dput hkey hd' hmx fun h'' hd'' hs'' => ?_))
      have hoo'' : h''.get? o = some oo := (hs''.2 o (Ne.symm hdo)).trans hoo'
      refine wpAny_bind (wpAny_dictEpoch hoo'' hdo' ?_)
      rw [if_neg (by simp)]
      exact wpAny_pure ⟨h'', x + 1, rfl, hrest, hlt, (merged_take_succ kvs more x (k', v) hkv).symm ▸ hd'', hoo'', hs'.trans hs''⟩
    · rintro b t ⟨h', i, rfl, hr, hi, hd', hoo', hs'⟩
      have hin : i = eso.size := by
        rcases Nat.lt_or_ge i eso.size with h | h
        · rw [show eso.size - i = (eso.size - (i + 1)) + 1 by omega, List.range'_succ] at hr
          exact nomatch hr
        · exact Nat.le_antisymm hi h
      refine wpAny_pure (hQ h' ?_ hs')
      rw [hin, ← hlen, List.take_length] at hd'
      exact hd'
  dsimp only
  rw [if_neg (by rw [hS]; exact Bool.false_ne_true)]
  refine wpAny_bind (wpAny_dictEntries hod hdd ?_)
  split
  · refine wpAny_bind (wpAny_dictEntries hoo hdo' ?_)
    refine wpAny_bind ?_
    rw [← Array.forIn_toList]
    refine wpAny_forIn_list _ (fun rest _ t => t = s ∧ ∀ e ∈ rest, ∀ b, e.key ≠ .ref b) _ ?_ ?_ _ _ ⟨rfl, fun e he b z => ?_⟩
    · rintro x rest b t ⟨rfl, hx⟩
      split
      · rename_i b' z
        exact absurd z (hx x List.mem_cons_self b')
      · exact wpAny_pure ⟨rfl, fun e he => hx e (List.mem_cons_of_mem _ he)⟩
    · rintro b t ⟨rfl, _⟩
      exact loop
    · obtain ⟨k, h1, _⟩ := hko e (by simpa using he)
      have h2 := kn.byValue k e.key h1
      rw [z] at h2
      cases h2
  · exact loop
theorem wrapped {M : Model} {m : Sem Unit} {k1 k2 k3 : Value → Sem Unit} {Q : Unit → Shared → Prop} (h : wpAny M A m Q (fun _ _ => False) s) : wpAny M A (((m.onRaise k1).tryCatch k2).onRaise k3) Q E s :=
  wpAny_onRaise (wpAny_tryCatch (wpAny_onRaise (wpAny_mono h (fun _ _ q => q) fun _ _ f => f.elim)))
theorem disp2 {t1 t2 : Sem Value} {Q : Value → Shared → Prop} (h : wpAny (model P w) A t1 (fun m1 s1 => wpAny (model P w) A (mergeMapping s.heap.objs.size m1 false) (fun _ s2 => wpAny (model P w) A t2 (fun m2 s3 => wpAny (model P w) A (mergeMapping s.heap.objs.size m2 false) (fun _ s4 => Q (.ref s.heap.objs.size) s4) (fun _ _ => False) s3) E s2) (fun _ _ => False) s1) E { s with heap := s.heap.push { cls := .type "dict", data := .dict #[] } }) :
    wpAny (model P w) A (dictDisplay [(none, t1), (none, t2)]) Q E s := by
  unfold dictDisplay
  simp only [List.forIn_cons, List.forIn_nil, List.isEmpty_nil, if_true]
  refine wpAny_bind (wpAny_bind (wpAny_bind (wpAny_pure ?_)))
  show wpAny _ _ (alloc _ >>= _) _ _ _
  refine wpAny_bind (wpAny_alloc ?_)
  refine wpAny_bind (wpAny_holding (wpAny_mono h (fun m1 s1 h1 => ?_) fun _ _ e => e))
  refine wpAny_bind (wrapped (wpAny_holding (wpAny_mono h1 (fun _ s2 h2 => ?_) fun _ _ e => e)))
  refine wpAny_pure ?_
  show wpAny _ _ (_ >>= _) _ _ _
  refine wpAny_bind (wpAny_bind ?_)
  show wpAny _ _ (pure (some s.heap.objs.size) : Sem (Option Addr)) _ _ _
  refine wpAny_pure ?_
  show wpAny _ _ ((pure s.heap.objs.size : Sem Addr) >>= _) _ _ _
  refine wpAny_bind (wpAny_pure ?_)
  refine wpAny_bind (wpAny_holding (wpAny_mono h2 (fun m2 s3 h3 => ?_) fun _ _ e => e))
  refine wpAny_bind (wrapped (wpAny_holding (wpAny_mono h3 (fun _ s4 h4 => ?_) fun _ _ e => e)))
  refine wpAny_pure ?_
  show wpAny _ _ ((pure (some s.heap.objs.size, []) : Sem (Option Addr × List (Sem Value × Sem Value)))) _ _ _
  refine wpAny_pure ?_
  show wpAny _ _ ((pure (some s.heap.objs.size) : Sem (Option Addr)) >>= _) _ _ _
  refine wpAny_bind (wpAny_pure ?_)
  exact wpAny_pure h4
end
end DL

/-! DL25: {**a, **b}; {k: v, ..}. -/
namespace DL
open L2 PySem PySem.Spec PyProof.Rows PySem.W

section
variable {K : KW} {R : List Nat} {σ : Sl} {ρ ρ' : EnvD} {H H2 : Hp} {p : Addr} {o o' u : HO}
theorem kp_skip (hp : H p = none) (k : Kp R σ ρ (upd H p o) ρ' H2) : Kp R σ ρ H ρ' (upd H2 p o') where
  obj := fun a x e n => by
    have ne : a ≠ p := fun z => by rw [z, hp] at e; cases e
    rw [upd_ne ne]
    exact k.obj a x (by rw [upd_ne ne]; exact e) n
  trk := fun a e => by
    by_cases ne : a = p
    · rw [ne, upd_same] at e
      cases e
    · rw [upd_ne ne] at e
      have := k.trk a e
      rw [upd_ne ne] at this
      exact this
  own := k.own
  ref := k.ref
  full := k.full
theorem kp_mid (k : Kp R σ ρ (upd H p o) ρ' H2) : Kp R σ ρ (upd H p o') ρ' (upd H2 p o') where
  obj := fun a x e n => by
    by_cases ne : a = p
    · rw [ne, upd_same] at e ⊢
      exact e
    · rw [upd_ne ne] at e ⊢
      exact k.obj a x (by rw [upd_ne ne]; exact e) n
  trk := fun a e => by
    by_cases ne : a = p
    · rw [ne, upd_same] at e
      cases e
    · rw [upd_ne ne] at e ⊢
      have := k.trk a e
      rw [upd_ne ne] at this
      exact this
  own := k.own
  ref := k.ref
  full := k.full
theorem fz_skip (h : H2 p = some u) (nf : ¬ Froz (some u)) : Fz H2 (upd H2 p o') := fun a f => by
  by_cases ne : a = p
  · rw [ne, h] at f
    exact (nf f).elim
  · rw [upd_ne ne]
theorem env_skip (ok : EnvOk K H2 σ ρ') (h : H2 p = some u) (nf : ¬ Froz (some u)) (no : ∀ i, ¬ OwnS σ ρ' i p) : EnvOk K (upd H2 p o') σ ρ' := by
  refine ⟨ok.len, fun i x e1 => ?_, ok.sep⟩
  obtain ⟨v, e2, hv⟩ := ok.at' i x e1
  refine ⟨v, e2, ?_⟩
  cases x with
  | dat d => exact Dv.mono (fz_skip h nf) hv
  | own x =>
    obtain ⟨a, rfl, ho⟩ := hv
    have ne : a ≠ p := fun z => no i ⟨⟨x, e1⟩, by rw [e2, z]⟩
    exact ⟨a, rfl, ho.mono (fz_skip h nf) (by rw [upd_ne ne])⟩
theorem not_own {R : List Nat} {ρ1 : EnvD} {H1 : Hp} (ok : EnvOk K H σ ρ) (hp : H p = none) (k : Kp R σ ρ H1 ρ1 H2) : ∀ i, ¬ OwnS σ ρ1 i p := fun i z => by
  obtain ⟨x, _, hx⟩ := ok.ownAt (k.ownS z)
  obtain ⟨u, e, _⟩ := hx.some
  rw [hp] at e
  cases e
end
/-- {**a, **b} -/
def mrgF (fa fb : FE) : FE := fun ρ => (fa ρ).bind fun p => match p.1 with
  | .dat (.dK a) => (fb p.2).bind fun q => match q.1 with
    | .dat (.dK b) => if a.length + b.length ≤ sizeLine then some (.own (.mK (mergeD (mergeD [] a) b)), q.2) else none
    | _ => none
  | _ => none
theorem mergeD_len {κ : Type} [DecidableEq κ] : ∀ (l a : List (κ × V)), (l.foldl (fun a p => putK a p.1 p.2) a).length ≤ a.length + l.length
  | [], a => by simp
  | p :: l, a => by
    have q1 := mergeD_len l (putK a p.1 p.2)
    have q2 := length_putK a p.1 p.2
    simp only [List.foldl_cons, List.length_cons]
    omega
section
variable {X : Cx} {R : List Nat} {ea eb : Expr} {fa fb : FE} {pos : Pos}
theorem de_mrg (ha : DE X R ea fa) (hb : DE X R eb fb) : DE X R (.Dict [none, none] [ea, eb] pos) (mrgF fa fb) := by
  refine ⟨fun pins s σ H Q I hq => ?_⟩
  obtain ⟨ρ, r', ρ', ok, q, k⟩ := hq
  simp only [mrgF, Option.bind_eq_some_iff] at q
  obtain ⟨⟨ra, ρ1⟩, q1, q2⟩ := q
  split at q2
  · rename_i A er
    obtain rfl : ra = .dat (.dK A) := er
    simp only [Option.bind_eq_some_iff] at q2
    obtain ⟨⟨rb, ρ2⟩, q3, q4⟩ := q2
    split at q4
    · rename_i B er
      obtain rfl : rb = .dat (.dK B) := er
      split at q4
      · rename_i sz
        cases q4
        have hn := I.hok.fresh (Nat.le_refl s.heap.objs.size)
        have I1 := I.laid (a := s.heap.objs.size) (o := .dK []) (h' := s.heap.push { cls := .type "dict", data := .dict #[] }) (t' := s.toks) (fun _ _ q => Heap.get?_push_of_some _ q) (Nat.le_refl _) (dk_empty s.heap I.big)
        have ok0 := ok.same (same_new (o := HO.dK []) hn)
        rw [arm_eval_Dict]
        refine wpAny_bind (wpAny_standAt ?_)
        show wpAny _ _ (dictDisplay [(none, (do let x ← eval ea X.env; standAt pos; pure x)), (none, (do let x ← eval eb X.env; standAt pos; pure x))]) _ _ _
        refine disp2 ?_
        refine wpAny_bind (thn (tE_run ha I1 ok0 q1) fun m1 s1 ⟨x1, H2, I2, r1, k1, ok1, o1⟩ => wpAny_bind (wpAny_standAt (wpAny_pure ?_)))
        obtain ⟨a1, kv1, rfl, g1, g2, g3⟩ := RvOk.rd (d := .dK A) o1 ok1 rfl
        cases r1
        have no1 := not_own ok hn k1
        have np1 : H2 s.heap.objs.size = some (.dK []) := k1.obj _ _ upd_same fun i z => not_own ok hn (Kp.refl (R := R) (ρ := ρ) (H := H) (σ := σ)) i z
        obtain ⟨z0, sy0, vs0, rel0, dd0⟩ := dk_of I2.hok np1
        cases rel0
        obtain ⟨z1, sy1, vs1, rel1, dd1⟩ := dk_rd I2.hok g1
        have fr1 : ∃ ob, H2 a1 = some (.frz ob (.dK kv1)) := by
          cases (show Dv (kw X) H2 (.ref a1) (.dK A) from o1) with
          | dK h1 h2 h3 =>
            rcases g1 with g1 | ⟨ob, g1⟩
            · rw [h1] at g1
              cases g1
            · exact ⟨ob, g1⟩
        have ne1 : s.heap.objs.size ≠ a1 := fun z => by
          obtain ⟨ob, f⟩ := fr1
          rw [← z, np1] at f
          cases f
        have l1 : kv1.length = A.length := by simpa using congrArg List.length g2
        have lv1 : kv1.length = vs1.length := Paired.length rel1
        refine merge_map (kn := mixKind X.prog X.w) (more := vs1) ne1 sy1 dd0 dd1 (by rw [List.length_nil]; omega) fun h1 dm1 sb1 => ?_
        have mz1 := mergeD_len kv1 []
        rw [List.length_nil] at mz1
        have I3 := d_write (t' := s1.toks) I2 (by rw [np1]; exact True.intro) sb1 (let ⟨q, _, _, hq, _⟩ := dm1; ⟨q, hq⟩) (dk_new (by show (mergeK [] kv1).length ≤ sizeLine; unfold mergeK; omega) (beq_eq_false_iff_ne.mpr (Nat.ne_of_gt I.big)) (rel1.merge .nil) dm1)
        have ok2 := env_skip (o' := HO.dK (mergeK [] kv1)) ok1 np1 id no1
        refine wpAny_bind (thn (tE_run hb I3 ok2 q3) fun m2 s3 ⟨x2, H4, I4, r2, k2, ok3, o2⟩ => wpAny_bind (wpAny_standAt (wpAny_pure ?_)))
        obtain ⟨a2, kv2, rfl, j1, j2, j3⟩ := RvOk.rd (d := .dK B) o2 ok3 rfl
        cases r2
        have np2 : H4 s.heap.objs.size = some (.dK (mergeK [] kv1)) := k2.obj _ _ upd_same no1
        have no2 : ∀ i, ¬ OwnS σ ρ2 i s.heap.objs.size := fun i z => no1 i (k2.ownS z)
        obtain ⟨z2, sy2, vs2, rel2, dd2⟩ := dk_of I4.hok np2
        obtain ⟨z3, sy3, vs3, rel3, dd3⟩ := dk_rd I4.hok j1
        have fr2 : ∃ ob, H4 a2 = some (.frz ob (.dK kv2)) := by
          cases (show Dv (kw X) H4 (.ref a2) (.dK B) from o2) with
          | dK h1 h2 h3 =>
            rcases j1 with g1 | ⟨ob, g1⟩
            · rw [h1] at g1
              cases g1
            · exact ⟨ob, g1⟩
        have ne2 : s.heap.objs.size ≠ a2 := fun z => by
          obtain ⟨ob, f⟩ := fr2
          rw [← z, np2] at f
          cases f
        have l2 : kv2.length = B.length := by simpa using congrArg List.length j2
        have lv2 : kv2.length = vs3.length := Paired.length rel3
        have lm : (mergeK [] kv1).length = vs2.length := Paired.length rel2
        have mz1' : (mergeK [] kv1).length ≤ kv1.length := by unfold mergeK; omega
        refine merge_map (kn := mixKind X.prog X.w) (more := vs3) ne2 sy3 dd2 dd3 (by omega) fun h2 dm2 sb2 => ?_
        have mz2 : (mergeK (mergeK [] kv1) kv2).length ≤ (mergeK [] kv1).length + kv2.length := mergeD_len kv2 _
        have I5 := d_write (t' := s3.toks) I4 (by rw [np2]; exact True.intro) sb2 (let ⟨q, _, _, hq, _⟩ := dm2; ⟨q, hq⟩) (dk_new (by omega) (beq_eq_false_iff_ne.mpr (Nat.ne_of_gt I.big)) (rel3.merge rel2) dm2)
        have kk1 : Kp R σ ρ H ρ1 (upd H2 s.heap.objs.size (.dK (mergeK [] kv1))) := kp_skip hn k1
        have kk2 : Kp R σ ρ H ρ2 (upd H4 s.heap.objs.size (.dK (mergeK (mergeK [] kv1) kv2))) := kp_skip (o := HO.dK (mergeK [] kv1)) hn ((kp_mid k1).trans k2)
        have fz1 : Fz H2 H4 := (fz_skip (o' := HO.dK (mergeK [] kv1)) np1 id).trans (k2.fz ok2)
        have ok4 := env_skip (o' := HO.dK (mergeK (mergeK [] kv1) kv2)) ok3 np2 id no2
        refine ⟨.ref s.heap.objs.size, _, I5, rfl, k _ _ kk2 ok4 ?_⟩
        have fz2 : Fz H4 (upd H4 s.heap.objs.size (.dK (mergeK (mergeK [] kv1) kv2))) := fz_skip np2 id
        have m1 : PutRel (kw X) H4 (mergeK [] kv1) (mergeD [] A) := merge_rel (acc := []) (accD := []) ⟨rfl, .nil⟩ ⟨g2, g3.mono fz1⟩
        have m2 : PutRel (kw X) H4 (mergeK (mergeK [] kv1) kv2) (mergeD (mergeD [] A) B) := merge_rel m1 ⟨j2, j3⟩
        exact ⟨_, rfl, hn, fun i z => no2 i z, _, upd_same, m2.1, m2.2.mono fz2⟩
      · cases q4
    · cases q4
  · cases q2
end
/-- the entries of a display -/
abbrev FPs := EnvD → Option (List (Key × D) × EnvD)
def nilP : FPs := fun ρ => some ([], ρ)
def consP (fk fv : FE) (g : FPs) : FPs := fun ρ => (fk ρ).bind fun p => match p.1 with
  | .dat dk => (toKey dk).bind fun k => (fv p.2).bind fun q => match q.1 with
    | .dat d => (g q.2).bind fun z => some ((k, d) :: z.1, z.2)
    | _ => none
  | _ => none
def dspF (g : FPs) : FE := fun ρ => (g ρ).bind fun p => if p.1.length ≤ 15 then some (.own (.mK (mergeD [] p.1)), p.2) else none
section
variable {X : Cx} {R : List Nat} {pos : Pos}
structure DP (X : Cx) (R : List Nat) (pos : Pos) (keys : List (Option Expr)) (values : List Expr) (g : FPs) : Prop where
  run : ∀ (pins : List (Addr × Obj)) (s : Shared) (σ : Sl) (H : Hp) (Q : List (V × V) → Hp → Prop), Inv X pins σ H s →
    (∃ ρ kvs ρ', EnvOk (kw X) H σ ρ ∧ g ρ = some (kvs, ρ') ∧ ∀ (kv : List (Key × V)) H', Kp R σ ρ H ρ' H' → EnvOk (kw X) H' σ ρ' → PutRel (kw X) H' kv kvs → Q (kv.map fun q => (kV q.1, q.2)) H') →
    wpAny (model X.prog X.w) X.A (evalPairs (pairTrees keys values X.env pos)) (fun vs s' => ∃ ps H', Inv X pins σ H' s' ∧ VV ps vs ∧ Q ps H') X.xe s
theorem dp_nil : DP X R pos [] [] nilP := ⟨fun pins s σ H Q I ⟨ρ, kvs, ρ', ok, q, k⟩ => by
  cases q
  exact pairTrees_nil_walk ⟨[], H, I, .nil, k [] H Kp.refl ok ⟨rfl, .nil⟩⟩⟩
theorem dp_cons {ek ev : Expr} {fk fv : FE} {ks : List (Option Expr)} {vs : List Expr} {g : FPs} (hk : DE X R ek fk) (hv : DE X R ev fv) (hr : DP X R pos ks vs g) : DP X R pos (some ek :: ks) (ev :: vs) (consP fk fv g) := ⟨fun pins s σ H Q I ⟨ρ, kvs, ρ', ok, q, k⟩ => by
  simp only [consP, Option.bind_eq_some_iff] at q
  obtain ⟨⟨rk, ρ1⟩, q1, q2⟩ := q
  split at q2
  · rename_i dk er
    obtain rfl : rk = .dat dk := er
    simp only [Option.bind_eq_some_iff] at q2
    obtain ⟨kk, q3, ⟨rv, ρ2⟩, q4, q5⟩ := q2
    split at q5
    · rename_i d er
      obtain rfl : rv = .dat d := er
      simp only [Option.bind_eq_some_iff] at q5
      obtain ⟨⟨zs, ρ3⟩, q6, q7⟩ := q5
      cases q7
      refine pairTrees_cons_walk (thn (tE_run hk I ok q1) fun u s1 ⟨x, H1, I1, rx, k1, ok1, o1⟩ => thn (tE_run hv I1 ok1 q4) fun u2 s2 ⟨y, H2, I2, ry, k2, ok2, o2⟩ => ?_)
      refine thn (hr.run pins s2 σ H2 (fun ps H' => ∃ kv : List (Key × V), ps = kv.map (fun q => (kV q.1, q.2)) ∧ Kp R σ ρ2 H2 ρ3 H' ∧ EnvOk (kw X) H' σ ρ3 ∧ PutRel (kw X) H' kv zs) I2 ⟨ρ2, zs, ρ3, ok2, q6, fun kv H' a b c => ⟨kv, rfl, a, b, c⟩⟩) fun ws s3 ⟨ps, H3, I3, rel, kv, e1, k3, ok3, pr⟩ => ?_
      subst e1
      have ex : x = kV kk := dv_key q3 o1
      subst ex
      refine ⟨(kV kk, y) :: kv.map (fun q => (kV q.1, q.2)), H3, I3, .cons ⟨rx, ry⟩ rel, ?_⟩
      exact k ((kk, y) :: kv) H3 ((k1.trans k2).trans k3) ok3 ⟨by rw [List.map_cons, List.map_cons, pr.1], .cons (Dv.mono (k3.fz ok2) o2) pr.2⟩
    · cases q5
  · cases q2⟩
theorem de_dsp {keys : List (Option Expr)} {values : List Expr} {g : FPs} (h : DP X R pos keys values g) (hall : keys.all (·.isSome) = true) (hl : keys.length = values.length) (h0 : keys ≠ []) (h15 : keys.length ≤ 15) : DE X R (.Dict keys values pos) (dspF g) := by
  refine ⟨fun pins s σ H Q I hq => ?_⟩
  obtain ⟨ρ, r', ρ', ok, q, k⟩ := hq
  simp only [dspF, Option.bind_eq_some_iff] at q
  obtain ⟨⟨kvs, ρ1⟩, q1, q2⟩ := q
  split at q2
  · rename_i sz
    cases q2
    have hn := I.hok.fresh (Nat.le_refl s.heap.objs.size)
    have I1 := I.laid (a := s.heap.objs.size) (o := .dK []) (h' := s.heap.push { cls := .type "dict", data := .dict #[] }) (t' := s.toks) (fun _ _ q => Heap.get?_push_of_some _ q) (Nat.le_refl _) (dk_empty s.heap I.big)
    have ok0 := ok.same (same_new (o := HO.dK []) hn)
    refine wpAny_Dict_walk (knd := mixKind X.prog X.w) hall hl h0 h15 (thn (h.run pins _ σ _ (fun ps H' => ∃ kv : List (Key × V), ps = kv.map (fun q => (kV q.1, q.2)) ∧ Kp R σ ρ (upd H s.heap.objs.size (.dK [])) ρ1 H' ∧ EnvOk (kw X) H' σ ρ1 ∧ PutRel (kw X) H' kv kvs) I1 ⟨ρ, kvs, ρ1, ok0, q1, fun kv H' a b c => ⟨kv, rfl, a, b, c⟩⟩) fun ws s2 ⟨ps, H2, I2, rel, kv, e1, k1, ok1, pr⟩ => ?_)
    subst e1
    obtain ⟨rs, c, rk⟩ := carries_of (P := X.prog) (w := X.w) rel
    have no1 := not_own ok hn k1
    have np1 : H2 s.heap.objs.size = some (.dK []) := k1.obj _ _ upd_same fun i z => not_own ok hn (Kp.refl (R := R) (ρ := ρ) (H := H) (σ := σ)) i z
    obtain ⟨z, hd, vs0, r0, dd⟩ := dk_of I2.hok np1
    cases r0
    refine ⟨rs, c, dd, fun h' dd' hs => ⟨.ref s.heap.objs.size, _, ?_, rfl, k _ _ (kp_skip (o' := HO.dK (mergeK [] kv)) hn k1) (env_skip ok1 np1 id no1) ?_⟩⟩
    · have lk : kv.length = kvs.length := by simpa using congrArg List.length pr.1
      have hz : (mergeK [] kv).length ≤ sizeLine := by
        have h1 := length_mergeK kv []
        rw [List.length_nil] at h1
        rw [sizeLine_eq]
        have : kvs.length ≤ 15 := sz
        omega
      exact d_write I2 (by rw [np1]; exact True.intro) hs (let ⟨q, _, _, hq, _⟩ := dd'; ⟨q, hq⟩) (dk_new hz hd (rk.merge .nil) dd')
    · have m1 : PutRel (kw X) H2 (mergeK [] kv) (mergeD [] kvs) := merge_rel (acc := []) (accD := []) ⟨rfl, .nil⟩ pr
      exact ⟨_, rfl, hn, no1, _, upd_same, m1.1, m1.2.mono (fz_skip np1 id)⟩
  · cases q2
end
end DL

/-! DL26: the end: from a def's promise (FnG) to the law's row. -/
namespace DL
open L2 PySem PySem.Spec PyProof.Rows

/-- what the base gives -/
def BaseOk (mg : Str → Option Value) (b : Heap) : Prop := b.Ns mainGlobals mg ∧ ∃ o, b.get? sysModules = some o
/-- the call of the law -/
abbrev LawGoal (P : Program) (w : World) (fa a : Addr) (t : Shared) : Prop := codeAny (model P w) callerA (.call (.ref fa) ⟨[.ref a], []⟩) (fun r s' => r = .ok (.ret (.bool true)) ∧ OldK t.heap s'.heap ∧ s'.os = t.os ∧ AllBare s'.gens) t
theorem law_from {P : Program} {w : World} {K : PySem.W.Frag} {mg mb : Str → Option Value} {k : Nat} {fa a : Addr} {fd : FuncData} {x : Str} {sp : Sp} {t : Shared} {vs : List Value} {ns : List Int} {H : Hp} (KX : K.In t.heap) (hmg : t.heap.Ns mainGlobals mg) (hmb : t.heap.Ns builtinsNs mb)
    (hbb : ∀ y : Str, y ≠ "__name__" → mb y = bootBuiltins y) (lim : t.heap.NoLimit) (gens : t.gens = #[]) (sysm : ∃ o es ep, t.heap.get? sysModules = some o ∧ o.data = .dict es ep) (ha : t.heap.get? a = some { cls := .type "list", data := .seq vs.toArray }) (room : Room k callerA)
    (F : ∀ b : Heap, K.In b → BaseOk mg b → FnG P w K mg b k fa fd [x] sp) (bind : ∀ (s : Shared) (u : Value), BindsTo s fd ⟨[u], []⟩ [(x, u)]) (prom : sp [.ref a] H (fun v _ => v = .bl true) fun _ _ _ => False)
    (only : ∀ b, H b = none ∨ ∃ o ys, H b = some (.frz o (.lst ys))) (hok : HOk P w H t.heap) (one : ∀ b, H b ≠ none → b = a) (notK : H a ≠ none → K.lookup a = none) : LawGoal P w fa a t := by
  have get : ∀ {b : Addr} {o : Obj}, t.heap.get? b = some o → H b = none → (hidT t.heap H).get? b = some o := fun e n => hidT_get e n
  have dict : ∀ {b : Addr} {o : Obj} {es : Array DictEntry} {ep : Nat}, t.heap.get? b = some o → o.data = .dict es ep → (hidT t.heap H).get? b = some o := fun {b o es ep} e d => get e (by
    by_cases q : H b = none
    · exact q
    · have eb := one b q
      rw [eb, ha] at e
      cases e
      cases d)
  have names : ∀ {b : Addr} {m : Str → Option Value}, t.heap.Ns b m → (hidT t.heap H).Ns b m := fun ⟨o, es, ep, e, d, r⟩ => ⟨o, es, ep, dict e d, d, r⟩
  have inK : K.In (hidT t.heap H) := fun b o e => get (KX b o e) (by
    by_cases q : H b = none
    · exact q
    · have eb := one b q
      subst eb
      rw [notK q] at e
      cases e)
  have md : Mod K mg (hidT t.heap H) := ⟨inK, names hmg, ⟨mb, names hmb, hbb⟩, by
    obtain ⟨mc, h1, h2⟩ := lim
    exact ⟨mc, names h1, h2⟩⟩
  have bo : BaseOk mg (hidT t.heap H) := ⟨names hmg, by
    obtain ⟨o, es, ep, h1, h2⟩ := sysm
    exact ⟨o, dict h1 h2⟩⟩
  have e0 : Env0 P w K mg (hidT t.heap H) callerA [] t H := ⟨rfl, md, fun b o e => of_hidT e, Nat.le_of_eq (hidT_size _ _), trivial, fun b hb => absurd hb List.not_mem_nil, hok, .of_eq gens⟩
  have run := (F _ inK bo).run callerA [] t H ⟨[.ref a], []⟩ [.ref a] [.ref a] (fun v _ => v = .bl true) (fun _ _ _ => False) rfl room e0 (bind t (.ref a)) (.cons rfl .nil) prom
  refine codeAny_mono run fun r s' h => ?_
  rcases r with e | fl
  · exact (show False from h).elim
  · cases fl with
    | next => exact (show False from h).elim
    | brk => exact (show False from h).elim
    | cont => exact (show False from h).elim
    | ret u =>
      obtain ⟨v, H', os, bare, un, hok', rv, q⟩ := h
      cases (show v = .bl true from q)
      cases (show u = Value.bool true from rv)
      refine ⟨rfl, OldK.of_keep fun b o e => ?_, os, bare⟩
      rcases only b with z | ⟨ob, ys, z⟩
      · exact un.keep b o e z (fun m => absurd m List.not_mem_nil) (by simp)
      · have z2 := un.frzs b ob _ z
        have g1 := (hok b _ z).1
        have g2 := (hok' b _ z2).1
        rw [e] at g1
        cases g1
        exact g2
theorem law_callG {P : Program} {w : World} {K : PySem.W.Frag} {mg mb : Str → Option Value} {k : Nat} {fa a : Addr} {fd : FuncData} {x : Str} {sp : Sp} {t : Shared} {vs : List Value} {ns : List Int} (KX : K.In t.heap) (hmg : t.heap.Ns mainGlobals mg) (hmb : t.heap.Ns builtinsNs mb)
    (hbb : ∀ y : Str, y ≠ "__name__" → mb y = bootBuiltins y) (lim : t.heap.NoLimit) (gens : t.gens = #[]) (sysm : ∃ o es ep, t.heap.get? sysModules = some o ∧ o.data = .dict es ep) (ha : t.heap.get? a = some { cls := .type "list", data := .seq vs.toArray }) (hi : IntsAre vs ns) (hl : ns.length ≤ sizeLine)
    (room : Room k callerA) (F : ∀ b : Heap, K.In b → BaseOk mg b → FnG P w K mg b k fa fd [x] sp) (bind : ∀ (s : Shared) (u : Value), BindsTo s fd ⟨[u], []⟩ [(x, u)])
    (prom : ∀ H : Hp, ScrAt ⟨K, P, w⟩ H a ns → sp [.ref a] H (fun v _ => v = .bl true) fun _ _ _ => False) : LawGoal P w fa a t := by
  have rv := vals_ints hi
  have lv := hi.length
  by_cases hk : ∃ o, K.lookup a = some o
  · obtain ⟨o, hk⟩ := hk
    have e := KX a o hk
    rw [ha] at e
    cases e
    have scr : ScrAt ⟨K, P, w⟩ (fun _ => none) a ns := .inr (.inr ⟨_, vs.toArray, _, hk, rfl, rfl, rfl, by rw [List.size_toArray, lv]; exact hl, by simpa using rv⟩)
    exact law_from (H := fun _ => none) (ns := ns) KX hmg hmb hbb lim gens sysm ha room F bind (prom _ scr) (fun _ => .inl rfl) (fun b u z => by cases (show (none : Option HO) = some u from z)) (fun b z => absurd rfl z) fun z => absurd rfl z
  · have hk' : K.lookup a = none := by
      cases q : K.lookup a with
      | none => rfl
      | some o => exact absurd ⟨o, q⟩ hk
    have hH : ∀ b u, (if b = a then some (HO.frz { cls := .type "list", data := .seq vs.toArray } (.lst (ns.map V.int))) else none) = some u → b = a ∧ u = HO.frz { cls := .type "list", data := .seq vs.toArray } (.lst (ns.map V.int)) := fun b u z => by
      split at z
      · rename_i eb
        cases z
        exact ⟨eb, rfl⟩
      · cases z
    have scr : ScrAt ⟨K, P, w⟩ (fun b => if b = a then some (HO.frz { cls := .type "list", data := .seq vs.toArray } (.lst (ns.map V.int))) else none) a ns := .inl ⟨_, if_pos rfl⟩
    refine law_from (ns := ns) KX hmg hmb hbb lim gens sysm ha room F bind (prom _ scr) (fun b => ?_) (fun b u z => ?_) (fun b z => ?_) fun _ => hk'
    · by_cases eb : b = a
      · exact .inr ⟨_, _, if_pos eb⟩
      · exact .inl (if_neg eb)
    · obtain ⟨rfl, rfl⟩ := hH b u z
      exact ⟨ha, by rw [List.length_map]; exact hl, vs, _, rv, ha⟩
    · by_cases eb : b = a
      · exact eb
      · exact absurd (if_neg eb) z
theorem fun_ofD {K : PySem.W.Frag} {x qual : Str} {st : Stmt} {f : Addr} {fd : FuncData} (F : FunD K x qual (defArgs st) (defBody st) (defScope st) [] [] f fd) : Fun K x qual st f fd := by
  refine ⟨?_, F.kp⟩
  obtain ⟨oc, od, dV, kV, doc, pm, an, cdv, ct, osl, e, lk, hcd, hD, _⟩ := F.ex
  rcases hD with ⟨_, rfl⟩ | ⟨z, _⟩
  · exact ⟨oc, od, kV, doc, pm, an, cdv, ct, osl, e, lk, hcd⟩
  · exact absurd rfl z
/-- the law's row, from the mirror of its def -/
theorem walk_ofG {l : PySem.W.OpenLaw} {n k : Nat} {q : Program} {loose : List Str} {XP : (Str → Option Value) → Heap → Prop} {YP : World → Heap → Prop} {d : DefRec} {x : Str} {m : FP} (hn : l.most = some n) (hn2 : n ≤ sizeLine) (hdf : d.params.defaults = []) (room : Room k callerA) (himp : importsNone q = true)
    (F : ∀ (w : World) (mg : Str → Option Value) (fa : Addr) (h : Heap), YP w h → h.Ns mainGlobals mg → mg d.name = some (.ref fa) → ∃ (K : PySem.W.Frag) (fd : FuncData), K.In h ∧ (∀ (s : Shared) (u : Value), BindsTo s fd ⟨[u], []⟩ [(x, u)]) ∧
      ∀ b : Heap, K.In b → BaseOk mg b → FnG l.prog w K mg b k fa fd [x] (spP ⟨K, l.prog, w⟩ 1 m))
    (law : ∀ ns : List Int, ns.length ≤ n → (∀ z ∈ ns, Builtin.Int.intBits z ≤ 1048576) → m [.scr ns] = some (.dat (.bl true))) : PySem.W.WalkO q loose XP YP l.row.toRowW d [] (fun f vs => PySem.call f vs) := by
  refine Att.attach_callB hn hdf fun w s₀ t mg mb fa o pm cd doc a vs ns G Y ho hd hcd hmg hobj hints hlen hbits hg => ?_
  obtain ⟨K, fd, KX, hb, hF⟩ := F w mg fa _ Y G.T.g hmg
  refine law_callG KX G.T.g G.T.b G.T.builtins G.T.nolimit hg ?_ hobj hints (Nat.le_trans hlen hn2) room hF hb fun H scr => ?_
  · obtain ⟨mm, ⟨o, es, ep, h1, h2, _⟩, _⟩ := (G.T.seer himp).mods
    exact ⟨o, es, ep, h1, h2⟩
  · refine ⟨[.scr ns], .dat (.bl true), rfl, .cons (.scr scr) .nil, law ns hlen hbits, ?_⟩
    intro v H' sm fr
    cases (show Dv ⟨K, l.prog, w⟩ H' v (.bl true) from fr)
    rfl
end DL

/-! DL27: list comprehensions whose targets are bound outside, too. -/
namespace DL
open L2 PySem PySem.Spec PyProof.Rows

def datAt (ρ : EnvD) (vs : List Nat) : Bool := vs.all fun i => match ρ[i]? with
  | some none => true
  | some (some (.dat _)) => true
  | _ => false
def freeS (ρ : EnvD) (i : Nat) : Prop := ρ[i]? = some none ∨ ∃ d, ρ[i]? = some (some (.dat d))
theorem datAt_iff {ρ : EnvD} {vs : List Nat} : datAt ρ vs = true ↔ ∀ i ∈ vs, freeS ρ i := by
  unfold datAt freeS
  rw [List.all_eq_true]
  refine forall_congr' fun i => forall_congr' fun _ => ?_
  split
  · rename_i h; simp [h]
  · rename_i d h; simp [h]
  · rename_i h1 h2
    simp only [Bool.false_eq_true, false_iff]
    rintro (z | ⟨d, z⟩)
    · exact h1 z
    · exact h2 d z
theorem dat_len {ρ : EnvD} {i : Nat} (h : freeS ρ i) : i < ρ.length := by
  rcases h with h | ⟨d, h⟩
  · exact (List.getElem?_eq_some_iff.mp h).1
  · exact (List.getElem?_eq_some_iff.mp h).1
/-- the slots vs as they were ahead -/
def keepD (ρ ρ' : EnvD) : List Nat → EnvD
  | [] => ρ'
  | v :: vs => (keepD ρ ρ' vs).set v (ρ.getD v none)
theorem keepD_len {ρ ρ' : EnvD} {vs : List Nat} : (keepD ρ ρ' vs).length = ρ'.length := by
  induction vs with
  | nil => rfl
  | cons v r ih => unfold keepD; rw [List.length_set, ih]
theorem keepD_out {ρ ρ' : EnvD} {vs : List Nat} {i : Nat} (h : i ∉ vs) : (keepD ρ ρ' vs)[i]? = ρ'[i]? := by
  induction vs with
  | nil => rfl
  | cons v r ih =>
    unfold keepD
    rw [List.mem_cons, not_or] at h
    rw [List.getElem?_set_ne (fun z => h.1 z.symm), ih h.2]
theorem keepD_in {ρ ρ' : EnvD} {vs : List Nat} {i : Nat} (h : i ∈ vs) (hl : i < ρ.length) (hl' : i < ρ'.length) : (keepD ρ ρ' vs)[i]? = ρ[i]? := by
  have e : ρ[i]? = some (ρ.getD i none) := by
    rw [List.getElem?_eq_getElem hl, List.getD_eq_getElem?_getD, List.getElem?_eq_getElem hl]
    rfl
  induction vs with
  | nil => cases h
  | cons v r ih =>
    unfold keepD
    by_cases hv : v = i
    · subst hv
      rw [List.getElem?_set_self (by rw [keepD_len]; exact hl'), e]
    · rw [List.getElem?_set_ne hv]
      exact ih ((List.mem_cons.mp h).resolve_left fun z => hv z.symm)
def lcS (vs : List Nat) (fi : FI) (g : FG) (t : FT) (f : FE) : FE := fun ρ => (fi ρ).bind fun p => if datAt p.2 vs = true ∧ p.1.length ≤ sizeLine then (compL vs g t f p.1 (wipeD p.2 vs)).bind fun q => some (.own (.ml q.1), keepD p.2 q.2 vs) else none
section
variable {K : KW} {vs : List Nat} {σ : Sl} {ρ ρ1 ρ2 : EnvD} {H H' : Hp} {R : List Nat}
/-- a slot behind, that is not one of vs -/
theorem keep_some {i : Nat} {x : SV} (hn : ∀ i ∈ vs, freeS ρ1 i) (hl : ∀ i ∈ vs, i < ρ1.length) (h : (keepD ρ1 ρ2 vs)[i]? = some (some x)) : (i ∈ vs ∧ (∃ d, x = .dat d) ∧ ρ1[i]? = some (some x)) ∨ (i ∉ vs ∧ ρ2[i]? = some (some x)) := by
  by_cases hv : i ∈ vs
  · have l2 : i < ρ2.length := by
      have := (List.getElem?_eq_some_iff.mp h).1
      rw [keepD_len] at this
      exact this
    rw [keepD_in hv (hl i hv) l2] at h
    rcases hn i hv with z | ⟨d, z⟩
    · rw [z] at h; cases h
    · rw [z] at h; cases h
      exact .inl ⟨hv, ⟨d, rfl⟩, z⟩
  · rw [keepD_out hv] at h
    exact .inr ⟨hv, h⟩
theorem keep_own {i : Nat} {x : OV} (hn : ∀ i ∈ vs, freeS ρ1 i) (hl : ∀ i ∈ vs, i < ρ1.length) (h : (keepD ρ1 ρ2 vs)[i]? = some (some (.own x))) : i ∉ vs ∧ ρ2[i]? = some (some (.own x)) := by
  rcases keep_some hn hl h with ⟨_, ⟨d, z⟩, _⟩ | z
  · cases z
  · exact z
theorem EnvOk.keep (e2 : EnvOk K H' (L2.wipe σ vs) ρ2) (e1 : EnvOk K H σ ρ1) (fz : Fz H H') (hl : ∀ i ∈ vs, i < ρ1.length) (hn : ∀ i ∈ vs, freeS ρ1 i) : EnvOk K H' σ (keepD ρ1 ρ2 vs) := by
  refine ⟨by rw [keepD_len, ← e2.len, wipe_length], fun i x h => ?_, fun i j a hi hj => ?_⟩
  · rcases keep_some hn hl h with ⟨_, ⟨d, rfl⟩, h1⟩ | ⟨hv, h1⟩
    · obtain ⟨v, h3, hd⟩ := e1.at' i _ h1
      exact ⟨v, h3, Dv.mono fz hd⟩
    · obtain ⟨v, h3, hx⟩ := e2.at' i x h1
      exact ⟨v, by rw [wipe_get hv] at h3; exact h3, hx⟩
  · have f : ∀ {i : Nat}, OwnS σ (keepD ρ1 ρ2 vs) i a → OwnS (L2.wipe σ vs) ρ2 i a := fun {i} ⟨⟨x, h1⟩, h2⟩ => by
      obtain ⟨h3, h4⟩ := keep_own hn hl h1
      exact ⟨⟨x, h4⟩, by rw [wipe_get h3]; exact h2⟩
    exact e2.sep i j a (f hi) (f hj)
theorem kp_keep (hn : ∀ i ∈ vs, freeS ρ1 i) (hl : ∀ i ∈ vs, i < ρ1.length) (hl2 : ρ2.length = ρ1.length) (k : Kp R (L2.wipe σ vs) (wipeD ρ1 vs) H ρ2 H') : Kp R σ ρ1 H (keepD ρ1 ρ2 vs) H' where
  obj := fun b o e n => k.obj b o e fun i hi => n i (ownS_wipe.mp hi).2
  trk := k.trk
  own := fun i x e => by
    obtain ⟨h1, h2⟩ := keep_own hn hl e
    obtain ⟨y, h3⟩ := k.own i x h2
    exact ⟨y, (wipeD_get.mp h3).2⟩
  ref := fun i hi y e => by
    by_cases hv : i ∈ vs
    · rcases hn i hv with z | ⟨d, z⟩
      · rw [z] at e; cases e
      · rw [z] at e; cases e
    · obtain ⟨x, h3⟩ := k.ref i hi y (wipeD_get.mpr ⟨hv, e⟩)
      exact ⟨x, by rw [keepD_out hv]; exact h3⟩
  full := fun i x e => by
    by_cases hv : i ∈ vs
    · exact ⟨x, by rw [keepD_in hv (hl i hv) (by rw [hl2]; exact hl i hv)]; exact e⟩
    · obtain ⟨y, h3⟩ := k.full i x (wipeD_get.mpr ⟨hv, e⟩)
      exact ⟨y, by rw [keepD_out hv]; exact h3⟩
end
section
variable {X : Cx} {R : List Nat} {elt tg iter : Expr} {ifs : List Expr} {scope : Scope} {own : List (Str × Nat)} {pos : Pos}
theorem lc_redS {vs : List Nat} {fi : FI} {g : FG} {t : FT} {f : FE} {σ : Sl} {H : Hp} {Q : VK} (hq : tE (kw X) R (lcS vs fi g t f) σ H Q) : tLc (tI (kw X) R fi) (tG (kw X) vs g) (tT (kw X) R t) (tE (kw X) R f) vs σ H Q := by
    obtain ⟨ρ, r', ρ', okE, q, k⟩ := hq
    simp only [lcS, Option.bind_eq_some_iff] at q
    obtain ⟨⟨ds, ρ1⟩, q1, q2⟩ := q
    split at q2
    · rename_i hn
      obtain ⟨hn, hsz⟩ := hn
      replace hn := datAt_iff.mp hn
      have hsz : ds.length ≤ sizeLine := hsz
      simp only [Option.bind_eq_some_iff] at q2
      obtain ⟨⟨out, ρ2⟩, q3, q4⟩ := q2
      cases q4
      refine ⟨ρ, ds, ρ1, okE, q1, fun J H1 k1 ok1 gs => ?_⟩
      intro D hD
      have lenρ : ∀ i ∈ vs, i < ρ1.length := fun i hi => dat_len (hn i hi)
      have hw0 : ∀ i ∈ vs, (wipeD ρ1 vs)[i]? = some none := fun i hi => wipeD_none hi (lenρ i hi)
      refine ⟨fun i m H' => ∃ ρi acc vacc rest, m = ds.length - i ∧ i ≤ ds.length ∧ EnvOk (kw X) H' (wipe σ vs) ρi ∧ (∀ j ∈ vs, ρi[j]? = some none) ∧ Kp R (wipe σ vs) (wipeD ρ1 vs) H1 ρi H' ∧ H' D = some (.lst vacc) ∧ Dvs (kw X) H' vacc acc ∧ acc.length ≤ i ∧
        compL vs g t f (ds.drop i) ρi = some (rest, ρ2) ∧ out = acc ++ rest, ⟨_, wipeD ρ1 vs, [], [], out, rfl, Nat.zero_le _, ?_, hw0, ?_, upd_same, .nil, Nat.le_refl _, q3, rfl⟩, fun i m H2 hW => ?_⟩
      · have sm := same_new (o := HO.lst []) hD
        exact (ok1.same sm).wipe
      · exact Kp.same (same_new hD)
      · obtain ⟨ρi, acc, vacc, rest, rfl, hle, ok2, hn2, k2, eD, hacc, hal, q5, eo⟩ := hW
        have ok1b := ok1.wipe (vs := vs)
        have fz2 := k2.fz ok1b
        have go := gs H2 fz2 i
        have nD : ∀ {j : Nat}, ¬ OwnS (wipe σ vs) ρi j D := fun {j} hj => by
          have h1 := (k2.ownS hj)
          obtain ⟨y, _, hy⟩ := ok1b.ownAt h1
          obtain ⟨u, eu, _⟩ := hy.some
          rw [hD] at eu; cases eu
        by_cases hlt : i < ds.length
        · have ei : ds[i]? = some ds[i] := List.getElem?_eq_getElem hlt
          obtain ⟨g1, g2⟩ := go.2 _ ei
          rw [List.drop_eq_getElem_cons hlt] at q5
          simp only [compL, Option.bind_eq_some_iff] at q5
          obtain ⟨ρa, q6, ⟨b, ρb⟩, q7, q8⟩ := q5
          refine .inr ⟨g1, fun H5 => ∃ ρi acc vacc rest, EnvOk (kw X) H5 (wipe σ vs) ρi ∧ (∀ j ∈ vs, ρi[j]? = some none) ∧ Kp R (wipe σ vs) (wipeD ρ1 vs) H1 ρi H5 ∧ H5 D = some (.lst vacc) ∧ Dvs (kw X) H5 vacc acc ∧ acc.length ≤ i + 1 ∧
            compL vs g t f (ds.drop (i + 1)) ρi = some (rest, ρ2) ∧ out = acc ++ rest, fun H5 hN => ?_, fun x H3 hy => ?_⟩
          · obtain ⟨ρi, acc, vacc, rest, h1, h2, h3, h4, h5, h6, h7, h8⟩ := hN
            exact ⟨ds.length - (i + 1), by omega, ρi, acc, vacc, rest, rfl, hlt, h1, h2, h3, h4, h5, h6, h7, h8⟩
          · obtain ⟨sm, hx⟩ := g2 x H3 hy
            have ok3 := ok2.same sm
            refine ⟨ρi, ds[i], ρa, ok3, hx, q6, fun σ4 ok4 a4 => ?_⟩
            refine ⟨wipe_ast a4, ρa, b, ρb, ok4, q7, fun H4 k4 okb => ?_⟩
            have eD3 : H3 D = some (.lst vacc) := sm D _ eD
            have nD4 : ∀ {j : Nat}, ¬ OwnS σ4 ρa j D := fun {j} hj => by
              obtain ⟨⟨x, h1⟩, h2⟩ := hj
              by_cases hv : j ∈ vs
              · exact a4.dat j hv x h1
              · rw [(a4.off j hv).2] at h1
                rw [(a4.off j hv).1] at h2
                exact nD ⟨⟨x, h1⟩, h2⟩
            have eD4 : H4 D = some (.lst vacc) := k4.obj D _ eD3 fun j hj => nD4 hj
            have lenb : ∀ {ρz : EnvD} {σz : Sl} {Hz : Hp}, EnvOk (kw X) Hz σz ρz → σz.length = σ.length → ∀ j ∈ vs, (wipeD ρz vs)[j]? = some none := fun {ρz σz Hz} e el j hj => wipeD_none hj (by
              have h1 := lenρ j hj
              have h2 := ok1.len
              have h3 := e.len
              omega)
            have l4 : σ4.length = σ.length := by rw [a4.len, wipe_length]
            have fzA : Fz H2 H4 := (Fz.of_same sm).trans (k4.fz ok4)
            dsimp only
            by_cases hb : b = true
            · rw [if_pos hb] at q8 ⊢
              simp only [Option.bind_eq_some_iff] at q8
              obtain ⟨⟨re, ρe⟩, q9, q10⟩ := q8
              refine ⟨ρb, re, ρe, okb, q9, fun y H5 k5 ok5 o5 => ?_⟩
              have eD5 : H5 D = some (.lst vacc) := k5.obj D _ eD4 fun j hj => nD4 (k4.ownS hj)
              split at q10
              · rename_i dy er
                obtain rfl : re = .dat dy := er
                simp only [Option.bind_eq_some_iff] at q10
                obtain ⟨⟨ys, ρz⟩, q11, q12⟩ := q10
                cases q12
                have fz5 : Fz H2 H5 := fzA.trans (k5.fz okb)
                have fzD := upd_own_fz (o := .lst (vacc ++ [y])) eD5 id
                have hacc5 : Dvs (kw X) H5 vacc acc := hacc.mono fz5
                have okw : EnvOk (kw X) H5 (wipe σ vs) (wipeD ρe vs) := by
                  have := ok5.wipe (vs := vs)
                  rw [wipe_ast a4] at this
                  exact this
                have kw : Kp R (wipe σ vs) (wipeD ρ1 vs) H1 (wipeD ρe vs) H5 := (k2.trans (Kp.same sm)).trans (kp_turn hn2 a4 (k4.trans k5))
                have nD5 : ∀ {j : Nat}, ¬ OwnS (wipe σ vs) (wipeD ρe vs) j D := fun {j} hj => nD ((kp_turn hn2 a4 (k4.trans k5)).ownS hj)
                refine ⟨vacc, eD5, by rw [hacc.length]; omega, wipeD ρe vs, acc ++ [dy], vacc ++ [y], ys, ?_, lenb ok5 l4, ?_, upd_same, (hacc5.append (.cons o5 .nil)).mono fzD, by rw [List.length_append, List.length_singleton]; omega, q11, by rw [eo, List.append_assoc]; rfl⟩
                · refine ⟨okw.len, fun j z e => ?_, okw.sep⟩
                  obtain ⟨w, e1, hw⟩ := okw.at' j z e
                  refine ⟨w, e1, ?_⟩
                  cases z with
                  | dat d => exact Dv.mono fzD hw
                  | own z =>
                    obtain ⟨c, rfl, hc⟩ := hw
                    have hne : c ≠ D := fun z' => nD5 (j := j) ⟨⟨z, e⟩, by rw [← z']; exact e1⟩
                    exact ⟨c, rfl, hc.mono fzD (upd_ne hne)⟩
                · refine ⟨fun c o e n => ?_, fun c e => ?_, kw.own, kw.ref, kw.full⟩
                  · rw [upd_ne (ne_of_none e hD)]
                    exact kw.obj c o e n
                  · by_cases hc : c = D
                    · rw [hc]; exact hD
                    · rw [upd_ne hc] at e
                      exact kw.trk c e
              · cases q10
            · rw [if_neg hb] at q8 ⊢
              have okw : EnvOk (kw X) H4 (wipe σ vs) (wipeD ρb vs) := by
                have := okb.wipe (vs := vs)
                rw [wipe_ast a4] at this
                exact this
              exact ⟨wipeD ρb vs, acc, vacc, rest, okw, lenb okb l4, (k2.trans (Kp.same sm)).trans (kp_turn hn2 a4 k4), eD4, hacc.mono fzA, by omega, q8, eo⟩
        · rw [List.drop_of_length_le (by omega)] at q5
          cases q5
          refine .inl ⟨go.1 (by omega), ?_⟩
          rw [List.append_nil] at eo
          subst eo
          have hl2 : ρ2.length = ρ1.length := by
            have h1 : σ.length = ρ1.length := ok1.len
            have h2 : (wipe σ vs).length = ρ2.length := ok2.len
            rw [wipe_length] at h2
            omega
          have okF : EnvOk (kw X) H2 σ (keepD ρ1 ρ2 vs) := ok2.keep ok1 fz2 lenρ hn
          refine k _ H2 (k1.trans (kp_keep hn lenρ hl2 k2)) okF ⟨D, rfl, k1.trk D hD, fun j hj => ?_, vacc, eD, hacc⟩
          obtain ⟨⟨x, h1⟩, h2⟩ := hj
          obtain ⟨h3, h4⟩ := keep_own hn lenρ h1
          exact nD ⟨⟨x, h4⟩, by rw [wipe_get h3]; exact h2⟩
    · cases q2
theorem de_lcS {fi : FI} {g : FG} {t : FT} {f : FE} (hc : X.calm = true) (hN : X.N.Nodup) (hi : DI X R tg iter fi) (ok : BlkOk X.N X.env.scope scope own)
    (hg : ∀ (s : Shared) (H : Hp) (C : Addr) (cl : List (Str × Addr)) (fp : List Addr), PG (X.blk s H scope (compEnvC scope cl C X.env) fp) tg (tG (kw X) (own.map (·.2)) g))
    (ht : ∀ (s : Shared) (H : Hp) (C : Addr) (cl : List (Str × Addr)) (fp : List Addr), PTs (X.blk s H scope (compEnvC scope cl C X.env) fp) ifs (tT (kw X) R t))
    (he : ∀ (s : Shared) (H : Hp) (C : Addr) (cl : List (Str × Addr)) (fp : List Addr), PE (X.blk s H scope (compEnvC scope cl C X.env) fp) elt (tE (kw X) R f))
    (hs : ∀ x, foldedSetIterable iter X.env x = pure x := by intro _; rfl) : DE X R (.ListComp elt [⟨tg, iter, ifs, 0⟩] scope pos) (lcS (own.map (·.2)) fi g t f) :=
  pe_imp (pe_lc hc hN hi ok hg ht he hs) fun σ H Q hq => lc_redS hq
/-- y = [..] on one line, y a local -/
theorem ds_setLcS (i : Nat) {y : Str} {py spos : Pos} {fi : FI} {g : FG} {t : FT} {f : FE} (hc : X.calm = true) (hN : X.N.Nodup) (hi : DI X R tg iter fi) (ok : BlkOk X.N X.env.scope scope own)
    (hg : ∀ (s : Shared) (H : Hp) (C : Addr) (cl : List (Str × Addr)) (fp : List Addr), PG (X.blk s H scope (compEnvC scope cl C X.env) fp) tg (tG (kw X) (own.map (·.2)) g))
    (ht : ∀ (s : Shared) (H : Hp) (C : Addr) (cl : List (Str × Addr)) (fp : List Addr), PTs (X.blk s H scope (compEnvC scope cl C X.env) fp) ifs (tT (kw X) R t))
    (he : ∀ (s : Shared) (H : Hp) (C : Addr) (cl : List (Str × Addr)) (fp : List Addr), PE (X.blk s H scope (compEnvC scope cl C X.env) fp) elt (tE (kw X) R f))
    (hy : X.N[i]? = some y := by rfl) (hyl : X.env.scope.names.lookup y = some .local := by rfl) (hsw : swapsWith (.ListComp elt [⟨tg, iter, ifs, 0⟩] scope pos) (some (.Name y py)) spos.line X.env = pure true := by exact sw_true rfl rfl rfl (by decide +kernel))
    (hs : ∀ x, foldedSetIterable iter X.env x = pure x := by intro _; rfl) : DS X R (.Assign [.Name y py] (.ListComp elt [⟨tg, iter, ifs, 0⟩] scope pos) spos) (setF R i (lcS (own.map (·.2)) fi g t f)) :=
  ps_imp (ps_setLc hc hN hy hyl hsw hi ok hg ht he hs) fun D σ H h => by
    obtain ⟨H0, S, ρ, fl, ρ', hR, b, q, k⟩ := h
    simp only [setF, Option.bind_eq_some_iff] at q
    obtain ⟨⟨r, ρ1⟩, q1, ρ2, q2, q3⟩ := q
    cases q3
    subst hR
    refine tE_bd (te := tLc _ _ _ _ _) (fun _ _ _ z => lc_redS z) b q1 fun v H' b' z o => ?_
    exact k _ H' (b'.put o b.trk q2) z
end
end DL

/-! DL28: defs that give (data, an own thing). -/
namespace DL
open L2 PySem PySem.Spec PyProof.Rows

abbrev FP2 := List D → Option (D × OV)
abbrev FR2 := OV → List D → Option ((D × OV) × OV)
def spP2 (K : KW) (n : Nat) (F : FP2) : Sp := fun vs H Q _ => ∃ ds z, ds.length = n ∧ Dvs K H vs ds ∧ F ds = some z ∧ ∀ v H', Same H H' → Rt2 K H H' v z.1 z.2 → Q v H'
def spR2 (K : KW) (n : Nat) (F : FR2) : Sp := fun vs H Q _ => ∃ a ws x ds z x', vs = .ref a :: ws ∧ ds.length + 1 = n ∧ OwnAt K H a x ∧ Dvs K H ws ds ∧ F x ds = some (z, x') ∧
  ∀ v H', (∀ b o, b ≠ a → H b = some o → H' b = some o) → (∀ b, H' b = none → H b = none) → OwnAt K H' a x' → Rt2 K H H' v z.1 z.2 → Q v H'
def runP2 (n : Nat) (b : FS) : FP2 := fun ds => (b (startD n (ds.map .dat))).bind fun p => match p.1 with
  | .ret2 d x => some (d, x)
  | _ => none
def runR2 (n : Nat) (b : FS) : FR2 := fun x ds => (b (startD n (.own x :: ds.map .dat))).bind fun p => match p.1, p.2[0]? with
  | .ret2 d z, some (some (SV.own x')) => some ((d, z), x')
  | _, _ => none
/-- return e, y: y an own thing of ours -/
def ret2F (R : List Nat) (f : FE) (j : Nat) : FS := fun ρ => (f ρ).bind fun p => match p.1, p.2[j]? with
  | .dat d, some (some (.own x)) => if j ∈ R then none else some (.ret2 d x, p.2)
  | _, _ => none
section
variable {X : Cx} {R : List Nat} {e : Expr}
theorem ds_ret2 (j : Nat) {y : Str} {np tp pos : Pos} {tx : Nat} {fe : FE} (he : DE X R e fe) (hN : X.N[j]? = some y := by rfl) (hv : Vis X.env.scope y := by first | exact Or.inl rfl | exact Or.inr (Or.inl rfl) | exact Or.inr (Or.inr rfl)) (hd : (y == ("__debug__" : Str)) = false := by decide) (hcd : (y == ("__classdict__" : Str)) = false := by decide)
    (hs : starEach (e :: [.Name y np]) X.env = (false, eval e X.env) :: starEach [.Name y np] X.env := by rfl) (hs2 : starEach (.Name y np :: []) X.env = (false, eval (.Name y np) X.env) :: starEach [] X.env := by rfl) :
    DS X R (.Return (some (.Tuple [e, .Name y np] tx tp)) pos) (ret2F R fe j) := ps_imp (ps_ret (pe_tup (pa_cons he (pa_cons (pe_var hN hv hd hcd) pa_nil hs2) hs))) fun D σ H h => by
  obtain ⟨H0, S, ρ, fl, ρ', hR, b, q, k⟩ := h
  simp only [ret2F, Option.bind_eq_some_iff] at q
  obtain ⟨⟨r, ρ1⟩, q1, q2⟩ := q
  subst hR
  split at q2
  · rename_i r' o' d x er ej
    obtain rfl : r = .dat d := er
    have ej : ρ1[j]? = some (some (.own x)) := ej
    split at q2
    · cases q2
    · rename_i hj
      cases q2
      refine tE_bd (fun _ _ _ z => z) b q1 fun v H' b' z o => ?_
      obtain ⟨w, ew, c, rfl, ho⟩ := b'.env.at' j _ ej
      have fresh : H0 c = none := by
        rcases b'.new j c ⟨⟨x, ej⟩, ew⟩ with m | m
        · exact absurd (List.mem_map_of_mem (f := Prod.fst) m) hj
        · exact m
      refine ⟨_, ew, by rw [sizeLine_eq]; show 2 ≤ 16777216; decide, fun p hp => ?_⟩
      have sm := same_new (o := HO.tup [v, .ref c]) hp
      obtain ⟨u, eu, _, _⟩ := ho.some
      refine k σ _ (b'.step (Kp.same sm) (b'.env.same sm)) (z.trans (Fz.of_same sm)) _ ⟨p, v, c, rfl, b'.trk p hp, upd_same, Dv.mono (Fz.of_same sm) o, fresh, ho.mono (Fz.of_same sm) (by rw [eu, sm c u eu])⟩
  · cases q2
end
section
variable {P : Program} {w : World} {K : PySem.W.Frag} {mg : Str → Option Value} {base : Heap}
theorem fn_pure2 {x qual : Str} {st : Stmt} {f : Addr} {fd : FuncData} {N ps : List Str} {k : Nat} {b : FS} (F : Fun K x qual st f fd) (S : FnScope N ps (defScope st))
    (hb : ∀ (cdv : Value) (A : Around) (outer : List Env) (s : Shared) (H : Hp) (E : XK), (A.deeper (envOfC qual (defScope st) s.heap.objs.size f cdv)).guards = some [] → Room k (A.deeper (envOfC qual (defScope st) s.heap.objs.size f cdv)) → DSs (cxOf CX0 P w K mg base N qual (defScope st) f cdv A outer s H E).nox [] (defBody st) b) :
    FnG P w K mg base (k + 1) f fd ps (spP2 ⟨K, P, w⟩ ps.length (runP2 N.length b)) := by
  refine fnG F S (fun vs H Q E h => ?_) fun cdv A outer s H vs Q E hg hr h => ?_
  · obtain ⟨ds, z, h1, h2, _⟩ := h
    rw [h2.length, h1]
  · obtain ⟨ds, z, hl, hd, hF, hp⟩ := h
    refine ⟨_, hb cdv A outer s H E hg hr, ?_⟩
    simp only [runP2, Option.bind_eq_some_iff] at hF
    obtain ⟨⟨fl, ρ'⟩, q1, q2⟩ := hF
    have no : ∀ (i : Nat) (y : OV), (startD N.length (ds.map SV.dat))[i]? ≠ some (some (.own y)) := fn_pure.no_own ds
    refine ⟨H, [], startD N.length (ds.map .dat), fl, ρ', rfl, ⟨⟨start_len (by rw [List.length_map]; exact hd.length), start_at hd.sv, fun i j a ⟨⟨y, e1⟩, _⟩ _ => absurd e1 (no i y)⟩, fun a o e _ => e, fun a e => e, fun i a ⟨⟨y, e1⟩, _⟩ => absurd e1 (no i y), fun p hp => nomatch hp⟩, q1, fun σ' H' bd _ => ?_⟩
    cases fl with
    | ret2 d x =>
      cases q2
      exact fun v hv => hp v H' (fun a o e => bd.keep a o e fun p hp => nomatch hp) hv
    | ret z' => cases q2
    | next => cases q2
    | brk => cases q2
    | cont => cases q2
/-- slots at the start, the first one own -/
theorem start_own {H : Hp} {N : List Str} {a : Addr} {ws : List V} {x : OV} {ds : List D} : ∀ i c, OwnS (L2.start N (.ref a :: ws)) (startD N.length (.own x :: ds.map .dat)) i c → i = 0 ∧ c = a := fun i c ⟨⟨y, e1⟩, e2⟩ => by
  cases i with
  | zero =>
    unfold L2.start at e2
    simp at e2
    exact ⟨rfl, e2.symm⟩
  | succ i =>
    exfalso
    unfold startD at e1
    by_cases hi : i + 1 < (SV.own x :: ds.map SV.dat).length
    · rw [List.getElem?_append_left (by simpa using hi), List.map_cons, List.getElem?_cons_succ, List.getElem?_map, List.getElem?_map] at e1
      cases q : ds[i]? with
      | none => rw [q] at e1; cases e1
      | some d => rw [q] at e1; cases e1
    · rw [List.getElem?_append_right (by simpa using hi), List.getElem?_replicate] at e1
      split at e1 <;> cases e1
/-- a body's state at the start of a def that writes at its first argument -/
theorem bd_start {K' : KW} {H : Hp} {N : List Str} {a : Addr} {ws : List V} {x : OV} {ds : List D} (ho : OwnAt K' H a x) (hd : Dvs K' H ws ds) : Bd K' H [(0, a)] (L2.start N (.ref a :: ws)) H (startD N.length (.own x :: ds.map .dat)) := by
  have pr : Paired (Sv K' H) (.ref a :: ws) (.own x :: ds.map .dat) := .cons ⟨a, rfl, ho⟩ hd.sv
  have at0 : OwnS (L2.start N (.ref a :: ws)) (startD N.length (.own x :: ds.map .dat)) 0 a := ⟨⟨x, rfl⟩, rfl⟩
  refine ⟨⟨start_len (by rw [List.length_cons, List.length_cons, List.length_map, hd.length]), start_at pr, fun i j c hi hj => ?_⟩, fun a o e _ => e, fun a e => e, fun i c hi => ?_, fun p hp => ?_⟩
  · rw [(start_own (H := H) i c hi).1, (start_own (H := H) j c hj).1]
  · obtain ⟨rfl, rfl⟩ := start_own (H := H) i c hi
    exact .inl List.mem_cons_self
  · obtain rfl := List.mem_singleton.mp hp
    exact at0
theorem fn_ref2 {x qual : Str} {st : Stmt} {f : Addr} {fd : FuncData} {N ps : List Str} {k : Nat} {b : FS} (F : Fun K x qual st f fd) (S : FnScope N ps (defScope st)) (hn : 0 < ps.length)
    (hb : ∀ (cdv : Value) (A : Around) (outer : List Env) (s : Shared) (H : Hp) (E : XK), (A.deeper (envOfC qual (defScope st) s.heap.objs.size f cdv)).guards = some [] → Room k (A.deeper (envOfC qual (defScope st) s.heap.objs.size f cdv)) → DSs (cxOf CX0 P w K mg base N qual (defScope st) f cdv A outer s H E).nox [0] (defBody st) b) :
    FnG P w K mg base (k + 1) f fd ps (spR2 ⟨K, P, w⟩ ps.length (runR2 N.length b)) := by
  refine fnG F S (fun vs H Q E h => ?_) fun cdv A outer s H vs Q E hg hr h => ?_
  · obtain ⟨a, ws, x, ds, z, x', rfl, h1, h2, h3, _⟩ := h
    rw [List.length_cons, h3.length, h1]
  · obtain ⟨a, ws, x, ds, z, x', rfl, hl, ho, hd, hF, hp⟩ := h
    refine ⟨_, hb cdv A outer s H E hg hr, ?_⟩
    simp only [runR2, Option.bind_eq_some_iff] at hF
    obtain ⟨⟨fl, ρ'⟩, q1, q2⟩ := hF
    refine ⟨H, [(0, a)], startD N.length (.own x :: ds.map .dat), fl, ρ', rfl, bd_start ho hd, q1, fun σ' H' bd _ => ?_⟩
    obtain ⟨y, e1, ho'⟩ := bd.env.ownAt (bd.refs (0, a) List.mem_cons_self)
    cases fl with
    | ret2 d u =>
      simp only [e1] at q2
      cases q2
      exact fun v hv => hp v H' (fun b o hb e => bd.keep b o e fun p hp => by
        obtain rfl := List.mem_singleton.mp hp
        exact fun z => hb z.symm) bd.trk ho' hv
    | ret z' => cases q2
    | next => cases q2
    | brk => cases q2
    | cont => cases q2
end
end DL

/-! DL29: calls of defs that give (data, an own thing). -/
namespace DL
open L2 PySem PySem.Spec PyProof.Rows

section
variable {K : KW} {R : List Nat} {σ : Sl} {ρ ρ1 : EnvD} {H H1 : Hp} {b : Addr} {x : OV} {w : HO} {od : Obj}
theorem no_owner (ok : EnvOk K H σ ρ) (h : H b = none) : ∀ i, ¬ OwnS σ ρ i b := fun i hi => by
  obtain ⟨y, _, hy⟩ := ok.ownAt hi
  obtain ⟨u, eu, _⟩ := hy.some
  rw [h] at eu; cases eu
/-- an own thing that stands in no slot is frozen -/
theorem froze (k1 : Kp R σ ρ H ρ1 H1) (ok1 : EnvOk K H1 σ ρ1) (h1 : H b = none) (h2 : ∀ i, ¬ OwnS σ ρ1 i b) (h3 : OwnAt K H1 b x) (ew : H1 b = some w) (nf : ¬ Froz (some w)) :
    Fz H1 (upd H1 b (.frz od w)) ∧ Kp R σ ρ H ρ1 (upd H1 b (.frz od w)) ∧ EnvOk K (upd H1 b (.frz od w)) σ ρ1 ∧ Dv K (upd H1 b (.frz od w)) (.ref b) x.d := by
  have fz := fz_upd (o := od) ew nf
  refine ⟨fz, ⟨fun c o hc hn => ?_, fun c hc => ?_, k1.own, k1.ref, k1.full⟩, ⟨ok1.len, fun i y e2 => ?_, ok1.sep⟩, h3.frozen ew fz⟩
  · rw [upd_ne (ne_of_none hc h1)]
    exact k1.obj c o hc hn
  · by_cases hcb : c = b
    · rw [hcb]; exact h1
    · rw [upd_ne hcb] at hc
      exact k1.trk c hc
  · obtain ⟨v, e3, hv⟩ := ok1.at' i y e2
    refine ⟨v, e3, ?_⟩
    cases y with
    | dat d => exact Dv.mono fz hv
    | own y =>
      obtain ⟨c, rfl, ho⟩ := hv
      exact ⟨c, rfl, ho.mono fz (upd_ne fun z => h2 i ⟨⟨y, e2⟩, by rw [← z]; exact e3⟩)⟩
/-- what a call gives that is to be frozen -/
def Two (K : KW) (R : List Nat) (σ : Sl) (ρ ρ1 : EnvD) (H : Hp) (d : D) (x : OV) (v : V) (H1 : Hp) : Prop := Kp R σ ρ H ρ1 H1 ∧ EnvOk K H1 σ ρ1 ∧ ∃ a w b, v = .ref a ∧ H1 a = some (.tup [w, .ref b]) ∧ Dv K H1 w d ∧ H b = none ∧ (∀ i, ¬ OwnS σ ρ1 i b) ∧ OwnAt K H1 b x
end
section
variable {X : Cx} {R : List Nat} {e : Expr} {te : TE}
theorem two_frozen {pins : List (Addr × Obj)} {s : Shared} {σ : Sl} {H : Hp} {Q : VK} {ρ ρ1 : EnvD} {d : D} {x : OV} (pe : PE X e te) (I : Inv X pins σ H s) (h : te σ H (Two (kw X) R σ ρ ρ1 H d x))
    (k : ∀ v H', Kp R σ ρ H ρ1 H' → EnvOk (kw X) H' σ ρ1 → RvOk (kw X) H H' σ ρ1 v (.dat (.tup [d, x.d])) → Q v H') : wpAny (model X.prog X.w) X.A (eval e X.env) (EP X pins σ Q) X.xe s := by
  refine thn (pe.run pins s σ H _ I h) fun u s1 ⟨v, H1, I1, r1, k1, ok1, a, w, b, ev, ha, hw, h1, h2, h3⟩ => ?_
  subst ev
  obtain ⟨t, et, mt, nf⟩ := h3.some
  obtain ⟨od, I2⟩ := I1.lock et mt
  obtain ⟨fz, k2, ok2, db⟩ := froze (od := od) k1 ok1 h1 h2 h3 et nf
  have hab : a ≠ b := fun z => by
    rw [z, et] at ha
    cases ha
    exact mt
  exact ⟨.ref a, _, I2, r1, k _ _ k2 ok2 (.tup (by rw [upd_ne hab]; exact ha) (.cons (Dv.mono fz hw) (.cons db .nil)))⟩
end
def gd2 (n : Nat) (F : FP2) : FP2 := fun ds => if ds.length = n then F ds else none
def gd2R (n : Nat) (F : FR2) : FR2 := fun y ds => if ds.length + 1 = n then F y ds else none
/-- f(..), frozen at once -/
def callP2z (F : FP2) (g : FA) : FE := fun ρ => (g ρ).bind fun p => (datA p.1).bind fun ds => (F ds).bind fun z => some (.dat (.tup [z.1, z.2.d]), p.2)
def callR2z (F : FR2) (g : FA) : FE := fun ρ => (g ρ).bind fun p => match p.1 with
  | .slot i :: rs => match p.2[i]? with
    | some (some (.own x)) => (datA rs).bind fun ds => (F x ds).bind fun q => some (.dat (.tup [q.1.1, q.1.2.d]), p.2.set i (some (.own q.2)))
    | _ => none
  | _ => none
/-- y, z = f(..) -/
def asgR2F (R : List Nat) (i j : Nat) (F : FR2) (g : FA) : FS := fun ρ => (g ρ).bind fun p => match p.1 with
  | .slot m :: rs => match p.2[m]? with
    | some (some (.own x)) => (datA rs).bind fun ds => (F x ds).bind fun q => (putS R i (.dat q.1.1) (p.2.set m (some (.own q.2)))).bind fun ρ1 => (putS R j (.own q.1.2) ρ1).bind fun ρ2 => some (.next, ρ2)
    | _ => none
  | _ => none
section
variable {X : Cx} {R : List Nat} {k : Nat} {f : Addr} {fd : FuncData} {ps : List Str} {x : Str} {p pos : Pos} {e : Expr} {es : List Expr} {g : FA}
theorem de_cP2z (n : Nat) (F : FP2) (hg0 : X.A.guards = some []) (G : FnG X.prog X.w X.K X.mg X.base k f fd ps (spP2 (kw X) n F)) (hr : Room k X.A) (hm : X.mg x = some (.ref f)) (hk : PySem.W.keepIn X.K (.ref f) = true) (hb : L2.Binds X.K fd ps [])
    (ha : DA X R (e :: es) g) (hn : ps.length = n := by rfl) (hg : Gl X x := by rfl) (hdb : (x == ("__debug__" : Str)) = false := by decide) (he : starEach (e :: es) X.env = (false, eval e X.env) :: starEach es X.env := by rfl) (hpl : (backTo pos (starEach es X.env)).any (·.1) = false := by rfl) :
    DE X R (.Call (.Name x p) (e :: es) [] pos) (callP2z (gd2 n F) g) := by
  refine ⟨fun pins s σ H Q I hq => ?_⟩
  obtain ⟨ρ, r', ρ', ok, q, k⟩ := hq
  simp only [callP2z, Option.bind_eq_some_iff] at q
  obtain ⟨⟨rs, ρ1⟩, q1, ds, q2, z, q3, q4⟩ := q
  cases q4
  unfold gd2 at q3
  split at q3
  · rename_i hds
    refine two_frozen (pe_callG G hg0 hr hg hm hk hb ha hdb he hpl) I ⟨ρ, rs, ρ1, ok, q1, fun vs H1 k1 ok1 o1 => ⟨ds, z, hds, RvsOk.dat o1 q2, q3, fun v H' sm rt => ?_⟩⟩ k
    obtain ⟨a, w, b, ev, h1, h2, h3, h4, h5⟩ := rt
    exact ⟨k1.trans (Kp.same sm), ok1.same sm, a, w, b, ev, h2, h3, k1.trk b h4, no_owner ok1 h4, h5⟩
  · cases q3
theorem de_cR2z (n : Nat) (F : FR2) (hg0 : X.A.guards = some []) (G : FnG X.prog X.w X.K X.mg X.base k f fd ps (spR2 (kw X) n F)) (hr : Room k X.A) (hm : X.mg x = some (.ref f)) (hk : PySem.W.keepIn X.K (.ref f) = true) (hb : L2.Binds X.K fd ps [])
    (ha : DA X R (e :: es) g) (hn : ps.length = n := by rfl) (hg : Gl X x := by rfl) (hdb : (x == ("__debug__" : Str)) = false := by decide) (he : starEach (e :: es) X.env = (false, eval e X.env) :: starEach es X.env := by rfl) (hpl : (backTo pos (starEach es X.env)).any (·.1) = false := by rfl) :
    DE X R (.Call (.Name x p) (e :: es) [] pos) (callR2z (gd2R n F) g) := by
  refine ⟨fun pins s σ H Q I hq => ?_⟩
  obtain ⟨ρ, r', ρ', ok, q, k⟩ := hq
  simp only [callR2z, Option.bind_eq_some_iff] at q
  obtain ⟨⟨rs, ρ1⟩, q1, q2⟩ := q
  split at q2
  · rename_i i rs' er
    obtain rfl : rs = .slot i :: rs' := er
    split at q2
    · rename_i y ey
      simp only [Option.bind_eq_some_iff] at q2
      obtain ⟨ds, q3, ⟨z, x'⟩, q4, q5⟩ := q2
      cases q5
      unfold gd2R at q4
      split at q4
      · rename_i hds
        refine two_frozen (pe_callG G hg0 hr hg hm hk hb ha hdb he hpl) I ⟨ρ, _, ρ1, ok, q1, fun vs H1 k1 ok1 o1 => ?_⟩ k
        obtain ⟨v, ws, rfl, o2, o3⟩ := paired_dat (v := .non) o1
        obtain ⟨es', _⟩ := o2
        obtain ⟨v', e2, a, rfl, ho⟩ := ok1.at' i _ ey
        rw [es'] at e2; cases e2
        refine ⟨a, ws, y, ds, z, x', rfl, hds, ho, RvsOk.dat o3 q3, q4, fun v H' kp tr ho' rt => ?_⟩
        obtain ⟨c, w, b, ev, h1, h2, h3, h4, h5⟩ := rt
        have ks := kp_setOwn (R := R) (x' := x') ey es' kp tr
        exact ⟨k1.trans ks, ok1.setOwn ey es' (own_fz ho kp) kp ho', c, w, b, ev, h2, h3, k1.trk b h4, fun j hj => no_owner ok1 h4 j (ks.ownS hj), h5⟩
      · cases q4
    · cases q2
  · cases q2
theorem ds_asgR2 (n : Nat) (F : FR2) (i j : Nat) {y z : Str} {py pz tp spos : Pos} {tk : Nat} (hc : X.calm = true) (hN : X.N.Nodup) (hg0 : X.A.guards = some []) (G : FnG X.prog X.w X.K X.mg X.base k f fd ps (spR2 (kw X) n F)) (hr : Room k X.A) (hm : X.mg x = some (.ref f)) (hk : PySem.W.keepIn X.K (.ref f) = true) (hb : L2.Binds X.K fd ps [])
    (ha : DA X R (e :: es) g) (hn : ps.length = n := by rfl) (hg : Gl X x := by rfl) (hdb : (x == ("__debug__" : Str)) = false := by decide) (he : starEach (e :: es) X.env = (false, eval e X.env) :: starEach es X.env := by rfl) (hpl : (backTo pos (starEach es X.env)).any (·.1) = false := by rfl)
    (hi : X.N[i]? = some y := by rfl) (hj : X.N[j]? = some z := by rfl) (hy : Loc X.env.scope y := by first | exact Or.inl rfl | exact Or.inr rfl) (hz : Loc X.env.scope z := by first | exact Or.inl rfl | exact Or.inr rfl)
    (hfy : X.fn y = true ∨ X.env.scope.names.lookup y = some .local := by first | exact Or.inl rfl | exact Or.inr rfl) (hfz : X.fn z = true ∨ X.env.scope.names.lookup z = some .local := by first | exact Or.inl rfl | exact Or.inr rfl)
    (hs1 : (assignEach [.Name y py, .Name z pz] X.env).map (·.2) = assign (.Name y py) X.env :: (assignEach [.Name z pz] X.env).map (·.2) := by rfl) (hs2 : (assignEach [.Name z pz] X.env).map (·.2) = assign (.Name z pz) X.env :: (assignEach [] X.env).map (·.2) := by rfl)
    (hl : (assignEach [.Name y py, .Name z pz] X.env).length = 2 := by rfl) (hst : (assignEach [.Name y py, .Name z pz] X.env).findIdx? (·.1) = none := by rfl)
    (hs : swapsWithSole [.Tuple [.Name y py, .Name z pz] tk tp] (.Call (.Name x p) (e :: es) [] pos) spos.line X.env = pure false := by rfl) (hw : swappedStores [.Tuple [.Name y py, .Name z pz] tk tp] (.Call (.Name x p) (e :: es) [] pos) X.env = pure none := by rfl)
    (h1 : (assignEach [.Tuple [.Name y py, .Name z pz] tk tp] X.env).map (·.2) = [assign (.Tuple [.Name y py, .Name z pz] tk tp) X.env] := by rfl) :
    DS X R (.Assign [.Tuple [.Name y py, .Name z pz] tk tp] (.Call (.Name x p) (e :: es) [] pos) spos) (asgR2F R i j (gd2R n F) g) :=
  ps_imp (ps_asg (pe_callG G hg0 hr hg hm hk hb ha hdb he hpl) (pg_tup hc (pgs_cons (pg_name hN hi hy hfy) (pgs_cons (pg_name hN hj hz hfz) pgs_nil hs2) hs1) hl hst) hs hw h1) fun D σ H h => by
    obtain ⟨H0, S, ρ, fl, ρ', hR, b, q, k⟩ := h
    simp only [asgR2F, Option.bind_eq_some_iff] at q
    obtain ⟨⟨rs, ρ1⟩, q1, q2⟩ := q
    subst hR
    split at q2
    · rename_i m rs' er
      obtain rfl : rs = .slot m :: rs' := er
      split at q2
      · rename_i u ey
        simp only [Option.bind_eq_some_iff] at q2
        obtain ⟨ds, q3, ⟨t, x'⟩, q4, ρ2, q5, ρ3, q6, q7⟩ := q2
        cases q7
        unfold gd2R at q4
        split at q4
        · rename_i hds
          refine ⟨ρ, _, ρ1, b.env, q1, fun vs H1 k1 ok1 o1 => ?_⟩
          obtain ⟨v, ws, rfl, o2, o3⟩ := paired_dat (v := .non) o1
          obtain ⟨es', _⟩ := o2
          obtain ⟨v', e2, a, rfl, ho⟩ := ok1.at' m _ ey
          rw [es'] at e2; cases e2
          refine ⟨a, ws, u, ds, t, x', rfl, hds, ho, RvsOk.dat o3 q3, q4, fun v H' kp tr ho' rt => ?_⟩
          obtain ⟨c, w, d, ev, g1, g2, g3, g4, g5⟩ := rt
          subst ev
          have ks := kp_setOwn (R := S.map Prod.fst) (x' := x') ey es' kp tr
          have fz := own_fz ho kp
          have b1 := b.step (k1.trans ks) (ok1.setOwn ey es' fz kp ho')
          have b2 := b1.put (r := .dat t.1) (v := w) (H1 := H) g3 b.trk q5
          have o3' : RvOk (kw X) H H' (σ.set i (some w)) ρ2 (.ref d) (.own t.2) := by
            refine ⟨d, rfl, k1.trk d g4, fun l hl' => ?_, g5⟩
            have e5 := q5
            unfold putS at e5
            split at e5
            · cases e5
            · split at e5
              · rename_i hlen
                cases e5
                by_cases hil : i = l
                · subst hil
                  obtain ⟨⟨yy, e6⟩, _⟩ := hl'
                  rw [List.getElem?_set_self hlen] at e6
                  cases e6
                · exact no_owner ok1 g4 l (ks.ownS ((ownS_set_ne hil).mp hl'))
              · cases e5
          have b3 := b2.put (r := .own t.2) (v := .ref d) (H1 := H) o3' b.trk q6
          exact ⟨c, _, rfl, SqT.of g2, rfl, _, _, rfl, _, _, rfl, rfl, k _ H' b3 ((k1.fz b.env).trans fz)⟩
        · cases q4
      · cases q2
    · cases q2
end
end DL

/-! DL30: a slot that holds a tuple of data and an own thing, for a while: y = f(..); if ..: y = g(y, h(..)); return y. -/
namespace DL
open L2 PySem PySem.Spec PyProof.Rows

section
variable {K : KW} {S : List (Nat × Addr)} {σ : Sl} {ρ ρ1 : EnvD} {H H1 H0 : Hp} {c : Nat} {a b : Addr} {d : D} {x : OV} {v w : V}
/-- the slot c holds such a tuple -/
structure Holds2 (K : KW) (H0 : Hp) (σ : Sl) (ρ : EnvD) (H : Hp) (c : Nat) (d : D) (x : OV) (a : Addr) (w : V) (b : Addr) : Prop where
  slot : σ[c]? = some (some (.ref a))
  newA : H0 a = none
  tup : H a = some (.tup [w, .ref b])
  dat : Dv K H w d
  newB : H0 b = none
  free : ∀ i, ¬ OwnS σ ρ i b
  own : OwnAt K H b x
theorem tup_free (ok : EnvOk K H σ ρ) {vs : List V} (h : H a = some (.tup vs)) : ∀ i, ¬ OwnS σ ρ i a := fun i hi => by
  obtain ⟨y, _, hy⟩ := ok.ownAt hi
  obtain ⟨u, eu, mu, _⟩ := hy.some
  rw [h] at eu; cases eu
  exact mu
theorem Holds2.step {R : List Nat} (h : Holds2 K H0 σ ρ H c d x a w b) (e : EnvOk K H σ ρ) (k : Kp R σ ρ H ρ1 H1) : Holds2 K H0 σ ρ1 H1 c d x a w b := by
  obtain ⟨u, eu, _, _⟩ := h.own.some
  exact ⟨h.slot, h.newA, k.obj a _ h.tup (tup_free e h.tup), Dv.mono (k.fz e) h.dat, h.newB, fun i hi => h.free i (k.ownS hi), h.own.mono (k.fz e) (by rw [eu, k.obj b u eu h.free])⟩
theorem ownS_put_none {i : Nat} {a : Addr} {z : Option SV} (hz : ∀ y, z ≠ some (.own y)) (h : OwnS σ (ρ.set c z) i a) : i ≠ c ∧ OwnS σ ρ i a := by
  obtain ⟨⟨y, h1⟩, h2⟩ := h
  by_cases hi : i = c
  · subst hi
    by_cases hl : i < ρ.length
    · rw [List.getElem?_set_self hl] at h1
      cases z with
      | none => cases h1
      | some z => cases h1; exact absurd rfl (hz y)
    · rw [List.getElem?_eq_none (by rw [List.length_set]; omega)] at h1
      cases h1
  · rw [List.getElem?_set_ne (Ne.symm hi)] at h1
    exact ⟨hi, ⟨y, h1⟩, h2⟩
/-- a slot that is no longer looked at -/
theorem Bd.drop (h : Bd K H0 S σ H ρ) (hc : c ∉ S.map Prod.fst) (v : V) : Bd K H0 S (σ.set c (some v)) H (ρ.set c none) := by
  have back : ∀ {i : Nat} {a : Addr}, OwnS (σ.set c (some v)) (ρ.set c none) i a → OwnS σ ρ i a := fun {i a} hi => by
    obtain ⟨hne, h1⟩ := ownS_put_none (by intro y z; cases z) hi
    obtain ⟨⟨y, h2⟩, h3⟩ := h1
    rw [List.getElem?_set_ne (Ne.symm hne)] at h3
    exact ⟨⟨y, h2⟩, h3⟩
  refine ⟨⟨by rw [List.length_set, List.length_set]; exact h.env.len, fun i y e => ?_, fun i j a hi hj => h.env.sep i j a (back hi) (back hj)⟩, h.keep, h.trk, fun i a hi => h.new i a (back hi), fun p hp => ?_⟩
  · by_cases hi : c = i
    · subst hi
      by_cases hl : c < ρ.length
      · rw [List.getElem?_set_self hl] at e; cases e
      · rw [List.getElem?_eq_none (by rw [List.length_set]; omega)] at e; cases e
    · rw [List.getElem?_set_ne hi] at e ⊢
      exact h.env.at' i y e
  · obtain ⟨⟨y, h1⟩, h2⟩ := h.refs p hp
    have hne : c ≠ p.1 := fun z => hc (z ▸ List.mem_map_of_mem hp)
    exact ⟨⟨y, by rw [List.getElem?_set_ne hne]; exact h1⟩, by rw [List.getElem?_set_ne hne]; exact h2⟩
theorem ownS_drop {i : Nat} {b : Addr} {v : V} (h : OwnS (σ.set c (some v)) (ρ.set c none) i b) : OwnS σ ρ i b := by
  obtain ⟨hne, h1⟩ := ownS_put_none (by intro y z; cases z) h
  obtain ⟨⟨y, h2⟩, h3⟩ := h1
  rw [List.getElem?_set_ne (Ne.symm hne)] at h3
  exact ⟨⟨y, h2⟩, h3⟩
/-- the tuple is frozen: the slot is data then -/
theorem Bd.frozen2 {od : Obj} {t : HO} (h : Bd K H0 S σ H ρ) (g : Holds2 K H0 σ ρ H c d x a w b) (hc : c ∉ S.map Prod.fst) (et : H b = some t) (nf : ¬ Froz (some t)) :
    Bd K H0 S σ (upd H b (.frz od t)) (ρ.set c (some (.dat (.tup [d, x.d])))) ∧ Dv K (upd H b (.frz od t)) (.ref a) (.tup [d, x.d]) ∧ Fz H (upd H b (.frz od t)) := by
  have fz := fz_upd (o := od) et nf
  have hab : a ≠ b := fun z => by
    obtain ⟨u, eu, mu, _⟩ := g.own.some
    rw [← z, g.tup] at eu
    cases eu
    exact mu
  have dv : Dv K (upd H b (.frz od t)) (.ref a) (.tup [d, x.d]) := .tup (by rw [upd_ne hab]; exact g.tup) (.cons (Dv.mono fz g.dat) (.cons (g.own.frozen et fz) .nil))
  have back : ∀ {i : Nat} {a' : Addr}, OwnS σ (ρ.set c (some (.dat (.tup [d, x.d])))) i a' → OwnS σ ρ i a' := fun {i a'} hi => (ownS_put_none (by intro y z; cases z) hi).2
  refine ⟨⟨⟨by rw [List.length_set]; exact h.env.len, fun i y e => ?_, fun i j a' hi hj => h.env.sep i j a' (back hi) (back hj)⟩, fun a' o e n => ?_, fun a' e => ?_, fun i a' hi => h.new i a' (back hi), fun p hp => ?_⟩, dv, fz⟩
  · by_cases hi : c = i
    · subst hi
      by_cases hl : c < ρ.length
      · rw [List.getElem?_set_self hl] at e
        cases e
        exact ⟨_, g.slot, dv⟩
      · rw [List.getElem?_eq_none (by rw [List.length_set]; omega)] at e; cases e
    · rw [List.getElem?_set_ne hi] at e
      obtain ⟨v, e3, hv⟩ := h.env.at' i y e
      refine ⟨v, e3, ?_⟩
      cases y with
      | dat d => exact Dv.mono fz hv
      | own y =>
        obtain ⟨c', rfl, ho⟩ := hv
        exact ⟨c', rfl, ho.mono fz (upd_ne fun z => g.free i ⟨⟨y, e⟩, by rw [← z]; exact e3⟩)⟩
  · rw [upd_ne (ne_of_none e g.newB)]
    exact h.keep a' o e n
  · by_cases hb : a' = b
    · rw [hb]; exact g.newB
    · rw [upd_ne hb] at e
      exact h.trk a' e
  · obtain ⟨⟨y, h1⟩, h2⟩ := h.refs p hp
    have hne : c ≠ p.1 := fun z => hc (z ▸ List.mem_map_of_mem hp)
    exact ⟨⟨y, by rw [List.getElem?_set_ne hne]; exact h1⟩, h2⟩
end
/-- the name whose slot holds the tuple: it is frozen -/
def tFound (K : KW) (c : Nat) : TE := fun σ H Q => ∃ H0 S ρ d x a w b, Bd K H0 S σ H ρ ∧ Holds2 K H0 σ ρ H c d x a w b ∧ c ∉ S.map Prod.fst ∧
  ∀ H', Bd K H0 S σ H' (ρ.set c (some (.dat (.tup [d, x.d])))) → Dv K H' (.ref a) (.tup [d, x.d]) → Fz H H' → Q (.ref a) H'
section
variable {X : Cx}
theorem pe_found {c : Nat} {y : Str} {pos : Pos} (hN : X.N[c]? = some y) (hv : Vis X.env.scope y) (hd : (y == ("__debug__" : Str)) = false := by decide) (hcd : (y == ("__classdict__" : Str)) = false := by decide) : PE X (.Name y pos) (tFound (kw X) c) := by
  refine ⟨fun pins s σ H Q I h => ?_⟩
  obtain ⟨H0, S, ρ, d, x, a, w, b, bd, g, hc, k⟩ := h
  refine thn ((pe_var hN hv hd hcd).run pins s σ H (fun v H1 => v = .ref a ∧ H1 = H) I ⟨_, g.slot, rfl, rfl⟩) fun u s1 ⟨v, H1, I1, r1, ev, eh⟩ => ?_
  subst ev
  subst eh
  obtain ⟨t, et, mt, nf⟩ := g.own.some
  obtain ⟨od, I2⟩ := I1.lock et mt
  obtain ⟨b2, dv, fz⟩ := bd.frozen2 (od := od) g hc et nf
  exact ⟨.ref a, _, I2, r1, k _ b2 dv fz⟩
end
/-- f(..) by a def that writes at its first argument: what it gives, and the slots behind it -/
def call2 (F : FR2) (g : FA) (ρ : EnvD) : Option ((D × OV) × EnvD) := (g ρ).bind fun p => match p.1 with
  | .slot i :: rs => match p.2[i]? with
    | some (some (.own x)) => (datA rs).bind fun ds => (F x ds).bind fun q => some (q.1, p.2.set i (some (.own q.2)))
    | _ => none
  | _ => none
/-- y = U(..); if t: y = B(y, h); return y. c: the slot of y -/
def evenB (c : Nat) (FU : FR2) (g : FA) (t : FT) (FB : FP2) (h : FE) (ρ : EnvD) : Option ((D × OV) × EnvD) :=
  (call2 FU g ρ).bind fun p => (t (p.2.set c none)).bind fun q => if q.1 = true then (h (q.2.set c (some (.dat (.tup [p.1.1, p.1.2.d]))))).bind fun r => match r.1 with
    | .dat e => (FB [.tup [p.1.1, p.1.2.d], e]).bind fun z => some (z, r.2.set c none)
    | _ => none
  else some (p.1, q.2)
def runEven (n c : Nat) (FU : FR2) (g : FA) (t : FT) (FB : FP2) (h : FE) : FR2 := fun x ds => if c = 0 then none else (evenB c FU g t FB h (startD n (.own x :: ds.map .dat))).bind fun p => match p.2[0]? with
  | some (some (SV.own x')) => some (p.1, x')
  | _ => none
/-- the text's meaning -/
def tEven (K : KW) (c nU : Nat) (FU : FR2) (g : FA) (t : FT) (FB : FP2) (h : FE) (R : List Nat) : TS :=
  tSeq (tAsg (fun σ H Q => tA K R g σ H fun vs H1 => spR2 K nU FU vs H1 Q E0) (gName c))
    (tSeq (tIfS (tT K R t) (tAsg (fun σ H Q => tCons (tFound K c) (tCons (tE K R h) tNil) σ H fun vs H1 => spP2 K 2 FB vs H1 Q E0) (gName c)) tNext) (tRet (tVar c)))
theorem even_ok {K : KW} {c nU : Nat} {FU : FR2} {g : FA} {t : FT} {FB : FP2} {h : FE} {H0 H : Hp} {S : List (Nat × Addr)} {σ : Sl} {ρ ρ' : EnvD} {z : D × OV} {D : Ends} (b : Bd K H0 S σ H ρ) (hc : c ∉ S.map Prod.fst) (hlen : c < σ.length)
    (q : evenB c (gd2R nU FU) g t FB h ρ = some (z, ρ')) (k : ∀ σ' H' v, Bd K H0 S σ' H' ρ' → Rt2 K H0 H' v z.1 z.2 → D.rt v H') : tEven K c nU FU g t FB h (S.map Prod.fst) D σ H := by
  simp only [evenB, call2, Option.bind_eq_some_iff] at q
  obtain ⟨⟨y, ρa⟩, ⟨⟨rs, ρ1⟩, q1, q2⟩, q3⟩ := q
  split at q2
  · rename_i m rs' er
    obtain rfl : rs = .slot m :: rs' := er
    split at q2
    · rename_i u ey
      simp only [Option.bind_eq_some_iff] at q2
      obtain ⟨ds, q4, ⟨y', x'⟩, q5, q6⟩ := q2
      cases q6
      unfold gd2R at q5
      split at q5
      · rename_i hds
        obtain ⟨⟨bt, ρ2⟩, q7, q8⟩ := q3
        -- y = U(..)
        refine ⟨ρ, _, ρ1, b.env, q1, fun vs H1 k1 ok1 o1 => ?_⟩
        obtain ⟨v, ws, rfl, o2, o3⟩ := paired_dat (v := .non) o1
        obtain ⟨es', _⟩ := o2
        obtain ⟨v', e2, a, rfl, ho⟩ := ok1.at' m _ ey
        rw [es'] at e2; cases e2
        refine ⟨a, ws, u, ds, y', x', rfl, hds, ho, RvsOk.dat o3 q4, q5, fun v H' kp tr ho' rt => ?_⟩
        obtain ⟨ca, w, cb, ev, g1, g2, g3, g4, g5⟩ := rt
        subst ev
        have ks := kp_setOwn (R := S.map Prod.fst) (x' := x') ey es' kp tr
        have b1 := b.step (k1.trans ks) (ok1.setOwn ey es' (own_fz ho kp) kp ho')
        have fr : ∀ i, ¬ OwnS σ (ρ1.set m (some (.own x'))) i cb := fun i hi => no_owner ok1 g4 i (ks.ownS hi)
        have b2 := b1.drop hc (.ref ca)
        have h2 : Holds2 K H0 (σ.set c (some (.ref ca))) ((ρ1.set m (some (.own x'))).set c none) H' c y'.1 y'.2 ca w cb := ⟨List.getElem?_set_self hlen, b.trk _ (k1.trk _ g1), g2, g3, b.trk _ (k1.trk _ g4), fun i hi => fr i (ownS_drop hi), g5⟩
        refine ⟨_, bt, ρ2, b2.env, q7, fun H2 k2 ok2 => ?_⟩
        have b3 := b2.step k2 ok2
        have h3 := h2.step b2.env k2
        show if bt = true then _ else _
        by_cases hb : bt = true
        · rw [if_pos hb] at q8 ⊢
          simp only [Option.bind_eq_some_iff] at q8
          obtain ⟨⟨r, ρ3⟩, q9, q10⟩ := q8
          split at q10
          · rename_i e er
            obtain rfl : r = .dat e := er
            simp only [Option.bind_eq_some_iff] at q10
            obtain ⟨z', q11, q12⟩ := q10
            cases q12
            refine ⟨H0, S, ρ2, y'.1, y'.2, ca, w, cb, b3, h3, hc, fun H3 b4 dv3 fz3 => ?_⟩
            refine ⟨_, _, ρ3, b4.env, q9, fun v4 H4 k4 ok4 o4 => ?_⟩
            have b5 := b4.step k4 ok4
            refine ⟨_, z, rfl, .cons (Dv.mono (k4.fz b4.env) dv3) (.cons o4 .nil), q11, fun v5 H5 sm rt => ?_⟩
            obtain ⟨da, w5, db, ev, f1, f2, f3, f4, f5⟩ := rt
            subst ev
            have b6 := (b5.step (Kp.same sm) (b5.env.same sm)).drop hc (.ref da)
            refine ⟨.ref da, List.getElem?_set_self (by rw [List.length_set]; exact hlen), ?_⟩
            exact k _ H5 _ b6 ⟨da, w5, db, rfl, b5.trk _ f1, f2, f3, b5.trk _ f4, f5⟩
          · cases q10
        · rw [if_neg hb] at q8 ⊢
          cases q8
          exact ⟨.ref ca, h3.slot, k _ H2 _ b3 ⟨ca, w, cb, rfl, h3.newA, h3.tup, h3.dat, h3.newB, h3.own⟩⟩
      · cases q5
    · cases q2
  · cases q2
section
variable {P : Program} {w : World} {K : PySem.W.Frag} {mg : Str → Option Value} {base : Heap}
/-- THE RULE for such a def -/
theorem fn_even {x qual : Str} {st : Stmt} {f : Addr} {fd : FuncData} {N ps : List Str} {k : Nat} {c nU : Nat} {FU : FR2} {g : FA} {t : FT} {FB : FP2} {h : FE} (F : Fun K x qual st f fd) (S : FnScope N ps (defScope st)) (hn : 0 < ps.length) (hcl : c < N.length)
    (hb : ∀ (cdv : Value) (A : Around) (outer : List Env) (s : Shared) (H : Hp) (E : XK), (A.deeper (envOfC qual (defScope st) s.heap.objs.size f cdv)).guards = some [] → Room k (A.deeper (envOfC qual (defScope st) s.heap.objs.size f cdv)) → PSs (cxOf CX0 P w K mg base N qual (defScope st) f cdv A outer s H E).nox (defBody st) (tEven ⟨K, P, w⟩ c nU FU g t FB h [0])) :
    FnG P w K mg base (k + 1) f fd ps (spR2 ⟨K, P, w⟩ ps.length (runEven N.length c (gd2R nU FU) g t FB h)) := by
  refine fnG F S (fun vs H Q E h => ?_) fun cdv A outer s H vs Q E hg hr h => ?_
  · obtain ⟨a, ws, x, ds, z, x', rfl, h1, h2, h3, _⟩ := h
    rw [List.length_cons, h3.length, h1]
  · obtain ⟨a, ws, x, ds, z, x', rfl, hl, ho, hd, hF, hp⟩ := h
    refine ⟨_, hb cdv A outer s H E hg hr, ?_⟩
    unfold runEven at hF
    split at hF
    · cases hF
    · rename_i hc0
      simp only [Option.bind_eq_some_iff] at hF
      obtain ⟨⟨y, ρ'⟩, q1, q2⟩ := hF
      have len : (L2.start N (.ref a :: ws)).length = N.length := by
        have hz : ws.length + 1 ≤ N.length := by
          rw [hd.length, hl]
          have := congrArg List.length S.pre
          rw [List.length_take] at this
          omega
        unfold L2.start
        simp
        omega
      refine even_ok (S := [(0, a)]) (bd_start ho hd) (by simpa using hc0) (by rw [len]; exact hcl) q1 fun σ' H' v bd rt => ?_
      obtain ⟨u, e1, ho'⟩ := bd.env.ownAt (bd.refs (0, a) List.mem_cons_self)
      simp only [e1] at q2
      cases q2
      exact hp v H' (fun b o hb e => bd.keep b o e fun p hp => by
        obtain rfl := List.mem_singleton.mp hp
        exact fun z => hb z.symm) bd.trk ho' rt
end
section
variable {X : Cx} {R : List Nat}
theorem pss_even (c nU : Nat) (FU : FR2) (FB : FP2) {y : Str} {kU kB : Nat} {fU fB : Addr} {dU dB : FuncData} {pU pB : List Str} {xU xB : Str} {p1 p2 p3 p4 p5 p6 p7 p8 p9 s1 s2 s3 : Pos} {eU e2 : Expr} {esU : List Expr} {cnd : Expr} {g : FA} {t : FT} {h : FE}
    (hN : X.N.Nodup) (hg0 : X.A.guards = some []) (GU : FnG X.prog X.w X.K X.mg X.base kU fU dU pU (spR2 (kw X) nU FU)) (hrU : Room kU X.A) (hmU : X.mg xU = some (.ref fU)) (hkU : PySem.W.keepIn X.K (.ref fU) = true) (hbU : L2.Binds X.K dU pU []) (ha : DA X R (eU :: esU) g)
    (ht : DT X R cnd t) (GB : FnG X.prog X.w X.K X.mg X.base kB fB dB pB (spP2 (kw X) 2 FB)) (hrB : Room kB X.A) (hmB : X.mg xB = some (.ref fB)) (hkB : PySem.W.keepIn X.K (.ref fB) = true) (hbB : L2.Binds X.K dB pB []) (he : DE X R e2 h)
    (hi : X.N[c]? = some y := by rfl) (hy : Loc X.env.scope y := by first | exact Or.inl rfl | exact Or.inr rfl) (hfy : X.fn y = true ∨ X.env.scope.names.lookup y = some .local := by first | exact Or.inl rfl | exact Or.inr rfl) (hv : Vis X.env.scope y := by first | exact Or.inl rfl | exact Or.inr (Or.inl rfl) | exact Or.inr (Or.inr rfl)) (hd : (y == ("__debug__" : Str)) = false := by decide) (hcd : (y == ("__classdict__" : Str)) = false := by decide)
    (hgU : Gl X xU := by rfl) (hdU : (xU == ("__debug__" : Str)) = false := by decide) (heU : starEach (eU :: esU) X.env = (false, eval eU X.env) :: starEach esU X.env := by rfl) (hplU : (backTo p2 (starEach esU X.env)).any (·.1) = false := by rfl)
    (hgB : Gl X xB := by rfl) (hdB : (xB == ("__debug__" : Str)) = false := by decide) (heB : starEach (.Name y p6 :: [e2]) X.env = (false, eval (.Name y p6) X.env) :: starEach [e2] X.env := by rfl) (heB2 : starEach (e2 :: []) X.env = (false, eval e2 X.env) :: starEach [] X.env := by rfl) (hplB : (backTo p5 (starEach [e2] X.env)).any (·.1) = false := by rfl)
    (hs1 : swapsWithSole [.Name y p7] (.Call (.Name xU p1) (eU :: esU) [] p2) s1.line X.env = pure false := by rfl) (hw1 : swappedStores [.Name y p7] (.Call (.Name xU p1) (eU :: esU) [] p2) X.env = pure none := by rfl) (ha1 : (assignEach [.Name y p7] X.env).map (·.2) = [assign (.Name y p7) X.env] := by rfl)
    (hs2 : swapsWithSole [.Name y p8] (.Call (.Name xB p4) [.Name y p6, e2] [] p5) s2.line X.env = pure false := by rfl) (hw2 : swappedStores [.Name y p8] (.Call (.Name xB p4) [.Name y p6, e2] [] p5) X.env = pure none := by rfl) (ha2 : (assignEach [.Name y p8] X.env).map (·.2) = [assign (.Name y p8) X.env] := by rfl) :
    PSs X [.Assign [.Name y p7] (.Call (.Name xU p1) (eU :: esU) [] p2) s1, .If cnd [.Assign [.Name y p8] (.Call (.Name xB p4) [.Name y p6, e2] [] p5) s2] [] p3, .Return (some (.Name y p9)) s3] (tEven (kw X) c nU FU g t FB h R) :=
  pss_cons (ps_asg (pe_callG GU hg0 hrU hgU hmU hkU hbU ha hdU heU hplU) (pg_name hN hi hy hfy) hs1 hw1 ha1)
    (pss_cons (ps_if ht (pss_one (ps_asg (pe_callG GB hg0 hrB hgB hmB hkB hbB (pa_cons (pe_found hi hv hd hcd) (pa_cons he pa_nil heB2) heB) hdB heB hplB) (pg_name hN hi hy hfy) hs2 hw2 ha2)) pss_nil) (pss_one (ps_ret (pe_var hi hv hd hcd))))
end
end DL

/-! DL31: displays of dicts whose keys are tuples. -/
namespace DL
open L2 PySem PySem.Spec PyProof.Rows PySem.W

abbrev FPt := EnvD → Option (List (List Key × D) × EnvD)
def nilPt : FPt := fun ρ => some ([], ρ)
def consPt (fk fv : FE) (g : FPt) : FPt := fun ρ => (fk ρ).bind fun p => match p.1 with
  | .dat (.tup ds) => (toKeys ds).bind fun k => (fv p.2).bind fun q => match q.1 with
    | .dat d => (g q.2).bind fun z => some ((k, d) :: z.1, z.2)
    | _ => none
  | _ => none
def dspTF (g : FPt) : FE := fun ρ => (g ρ).bind fun p => if p.1.length ≤ 15 then some (.own (.mT (mergeD [] p.1)), p.2) else none
/-- the entries, with the places of their keys -/
abbrev Ent := List Key × Addr × V
def entV (x : Ent) : V × V := (.ref x.2.1, x.2.2)
def entP (x : Ent) : List Key × V := (x.1, x.2.2)
def EntAt (H : Hp) (xs : List Ent) : Prop := ∀ x ∈ xs, H x.2.1 = some (.tup (x.1.map kV))
section
variable {X : Cx} {R : List Nat} {pos : Pos}
structure DPt (X : Cx) (R : List Nat) (pos : Pos) (keys : List (Option Expr)) (values : List Expr) (g : FPt) : Prop where
  run : ∀ (pins : List (Addr × Obj)) (s : Shared) (σ : Sl) (H : Hp) (Q : List (V × V) → Hp → Prop), Inv X pins σ H s →
    (∃ ρ kvs ρ', EnvOk (kw X) H σ ρ ∧ g ρ = some (kvs, ρ') ∧ ∀ (xs : List Ent) H', Kp R σ ρ H ρ' H' → EnvOk (kw X) H' σ ρ' → EntAt H' xs → PutRel (kw X) H' (xs.map entP) kvs → Q (xs.map entV) H') →
    wpAny (model X.prog X.w) X.A (evalPairs (pairTrees keys values X.env pos)) (fun vs s' => ∃ ps H', Inv X pins σ H' s' ∧ VV ps vs ∧ Q ps H') X.xe s
theorem dpt_nil : DPt X R pos [] [] nilPt := ⟨fun pins s σ H Q I ⟨ρ, kvs, ρ', ok, q, k⟩ => by
  cases q
  exact pairTrees_nil_walk ⟨[], H, I, .nil, k [] H Kp.refl ok (fun _ h => nomatch h) ⟨rfl, .nil⟩⟩⟩
theorem dpt_cons {ek ev : Expr} {fk fv : FE} {ks : List (Option Expr)} {vs : List Expr} {g : FPt} (hk : DE X R ek fk) (hv : DE X R ev fv) (hr : DPt X R pos ks vs g) : DPt X R pos (some ek :: ks) (ev :: vs) (consPt fk fv g) := ⟨fun pins s σ H Q I ⟨ρ, kvs, ρ', ok, q, k⟩ => by
  simp only [consPt, Option.bind_eq_some_iff] at q
  obtain ⟨⟨rk, ρ1⟩, q1, q2⟩ := q
  split at q2
  · rename_i dk er
    obtain rfl : rk = .dat (.tup dk) := er
    simp only [Option.bind_eq_some_iff] at q2
    obtain ⟨kk, q3, ⟨rv, ρ2⟩, q4, q5⟩ := q2
    split at q5
    · rename_i d er
      obtain rfl : rv = .dat d := er
      simp only [Option.bind_eq_some_iff] at q5
      obtain ⟨⟨zs, ρ3⟩, q6, q7⟩ := q5
      cases q7
      refine pairTrees_cons_walk (thn (tE_run hk I ok q1) fun u s1 ⟨x, H1, I1, rx, k1, ok1, o1⟩ => thn (tE_run hv I1 ok1 q4) fun u2 s2 ⟨y, H2, I2, ry, k2, ok2, o2⟩ => ?_)
      obtain ⟨b, ws, ex, hb, hw⟩ : ∃ b ws, x = .ref b ∧ H1 b = some (.tup ws) ∧ Dvs (kw X) H1 ws dk := by
        cases (show Dv (kw X) H1 x (.tup dk) from o1) with
        | tup h1 h2 => exact ⟨_, _, rfl, h1, h2⟩
      rw [dvs_keys q3 hw] at hb
      refine thn (hr.run pins s2 σ H2 (fun ps H' => ∃ xs : List Ent, ps = xs.map entV ∧ Kp R σ ρ2 H2 ρ3 H' ∧ EnvOk (kw X) H' σ ρ3 ∧ EntAt H' xs ∧ PutRel (kw X) H' (xs.map entP) zs) I2 ⟨ρ2, zs, ρ3, ok2, q6, fun xs H' a b c d => ⟨xs, rfl, a, b, c, d⟩⟩) fun r s3 ⟨ps, H3, I3, rel, xs, e1, k3, ok3, at3, pr⟩ => ?_
      subst e1
      subst ex
      have keep : H3 b = some (.tup (kk.map kV)) := k3.obj b _ (k2.obj b _ hb (tup_free ok1 hb)) (tup_free ok2 (k2.obj b _ hb (tup_free ok1 hb)))
      refine ⟨(.ref b, y) :: xs.map entV, H3, I3, .cons ⟨rx, ry⟩ rel, ?_⟩
      exact k ((kk, b, y) :: xs) H3 ((k1.trans k2).trans k3) ok3 (fun z hz => by
        rcases List.mem_cons.mp hz with rfl | hz
        · exact keep
        · exact at3 z hz) ⟨by rw [List.map_cons, List.map_cons, List.map_cons, pr.1]; rfl, .cons (Dv.mono (k3.fz ok2) o2) pr.2⟩
    · cases q5
  · cases q2⟩
/-- the entries as the heap holds them -/
theorem ents_raw {P : Program} {w : World} {H : Hp} {h : Heap} (ok : HOk P w H h) : ∀ {xs : List Ent} {vs : List (Value × Value)}, EntAt H xs → VV (xs.map entV) vs → ∃ ys : List (List Key × Addr × Value), CarriesH (tupleKind (mixKind P w)) h vs ys ∧ KT H (xs.map entP) ys
  | [], _, _, .nil => ⟨[], trivial, .nil⟩
  | x :: xs, _, a, r => by
    rw [List.map_cons] at r
    cases r with
    | @cons _ q _ qs h1 t =>
      obtain ⟨ys, c, kt⟩ := ents_raw ok (fun z hz => a z (List.mem_cons_of_mem _ hz)) t
      obtain ⟨q1, q2⟩ := q
      have e1 : q1 = Value.ref x.2.1 := h1.1
      have hx := a x List.mem_cons_self
      exact ⟨(x.1, x.2.1, q2) :: ys, ⟨e1, rfl, key_of ok hx, c⟩, .cons ⟨rfl, hx, h1.2⟩ kt⟩
def mergeT (a b : List (List Key × V)) : List (List Key × V) := b.foldl (fun a p => putK a p.1 p.2) a
theorem de_dspT {keys : List (Option Expr)} {values : List Expr} {g : FPt} (hu : X.A.units + 64 < cLine) (h : DPt X R pos keys values g) (hall : keys.all (·.isSome) = true) (hl : keys.length = values.length) (h0 : keys ≠ []) (h15 : keys.length ≤ 15) : DE X R (.Dict keys values pos) (dspTF g) := by
  refine ⟨fun pins s σ H Q I hq => ?_⟩
  obtain ⟨ρ, r', ρ', ok, q, k⟩ := hq
  simp only [dspTF, Option.bind_eq_some_iff] at q
  obtain ⟨⟨kvs, ρ1⟩, q1, q2⟩ := q
  split at q2
  · rename_i sz
    cases q2
    have hn := I.hok.fresh (Nat.le_refl s.heap.objs.size)
    have I1 := I.laid (a := s.heap.objs.size) (o := .dT []) (h' := s.heap.push { cls := .type "dict", data := .dict #[] }) (t' := s.toks) (fun _ _ q => Heap.get?_push_of_some _ q) (Nat.le_refl _) (dt_empty s.heap I.big)
    have ok0 := ok.same (same_new (o := HO.dT []) hn)
    have plen := pairTrees_length keys values X.env pos hall hl
    have pne : pairTrees keys values X.env pos ≠ [] := fun he => by
      rw [he] at plen
      exact h0 (List.length_eq_zero_iff.mp plen.symm)
    have room : (tupleKind (mixKind X.prog X.w)).room X.A := by
      show X.A.units < cLine
      omega
    rw [arm_eval_Dict, zip_pairTrees keys values X.env pos hall hl, dictDisplay_pairs _ pne (by rw [plen]; omega)]
    refine wpAny_bind (wpAny_standAt (wpAny_bind (wpAny_subDictH (knd := tupleKind (mixKind X.prog X.w)) (Q := fun d s' => wpAny (model X.prog X.w) X.A (pure (Value.ref d)) (EP X pins σ Q) X.xe s') room (by rw [plen]; exact h15) ?_)))
    refine thn (h.run pins _ σ _ (fun ps H' => ∃ xs : List Ent, ps = xs.map entV ∧ Kp R σ ρ (upd H s.heap.objs.size (.dT [])) ρ1 H' ∧ EnvOk (kw X) H' σ ρ1 ∧ EntAt H' xs ∧ PutRel (kw X) H' (xs.map entP) kvs) I1 ⟨ρ, kvs, ρ1, ok0, q1, fun xs H' a b c d => ⟨xs, rfl, a, b, c, d⟩⟩) fun vs s2 ⟨ps, H2, I2, rel, xs, e1, k1, ok1, at1, pr⟩ => ?_
    subst e1
    obtain ⟨ys, c, kt⟩ := ents_raw I2.hok at1 rel
    have no1 := not_own ok hn k1
    have np1 : H2 s.heap.objs.size = some (.dT []) := k1.obj _ _ upd_same fun i z => not_own ok hn (Kp.refl (R := R) (ρ := ρ) (H := H) (σ := σ)) i z
    obtain ⟨z, hd, vs0, r0, o0, es0, ep0, a1, a2, a3, a4, a5⟩ := I2.hok _ _ np1
    cases r0
    refine ⟨ys, c, ⟨o0, es0, ep0, a1, a2, a3, a4, (fun _ h => nomatch h), a5⟩, fun h' tk dd' hs => wpAny_pure ⟨.ref s.heap.objs.size, _, ?_, rfl, k _ _ (kp_skip (o' := HO.dT (mergeT [] (xs.map entP))) hn k1) (env_skip ok1 np1 id no1) ?_⟩⟩
    · have lk : (xs.map entP).length = kvs.length := by simpa using congrArg List.length pr.1
      have len : ∀ (l a : List (List Key × V)), (mergeT a l).length ≤ a.length + l.length := by
        intro l
        induction l with
        | nil => intro a; simp [mergeT]
        | cons p l ih =>
          intro a
          have q1 := ih (putK a p.1 p.2)
          have q2 := length_putK a p.1 p.2
          show (mergeT (putK a p.1 p.2) l).length ≤ _
          rw [List.length_cons]
          omega
      have hz : (mergeT [] (xs.map entP)).length ≤ sizeLine := by
        have h1 := len (xs.map entP) []
        rw [List.length_nil] at h1
        rw [sizeLine_eq]
        have : kvs.length ≤ 15 := sz
        omega
      have km := kt_merge kt (.nil : KT H2 [] [])
      exact d_write I2 (by rw [np1]; exact True.intro) hs (let ⟨q, _, _, hq, _⟩ := dd'; ⟨q, hq⟩) (dt_new hz hd (km.keeps fun b ys e => by
        have hb : b ≠ s.heap.objs.size := fun z => by rw [z, np1] at e; cases e
        rw [upd_ne hb]
        exact e) dd')
    · have m1 : PutRel (kw X) H2 (mergeT [] (xs.map entP)) (mergeD [] kvs) := merge_rel (acc := []) (accD := []) ⟨rfl, .nil⟩ pr
      exact ⟨_, rfl, hn, no1, _, upd_same, m1.1, m1.2.mono (fz_skip np1 id)⟩
  · cases q2
end
end DL

/-! DL32: x != {}, x a dict whose keys are tuples. -/
namespace DL
open L2 PySem PySem.Spec PyProof.Rows PySem.W

def neE : D → D → Option SV
  | .dT a, .dT [] => some (.dat (.bl (!decide (a = []))))
  | _, _ => none
section
variable {prog : Program} {w : World} {A : Around} {E : Value → Shared → Prop} {s : Shared}
theorem ne_none {a b : Addr} {oa ob : Obj} {es : Array DictEntry} {ep eq : Nat} {Q : Value → Shared → Prop} (na : (a == sysModules) = false) (nb : (b == sysModules) = false) (ga : s.heap.get? a = some oa) (ca : oa.ExactDict) (da : oa.data = .dict es ep)
    (gb : s.heap.get? b = some ob) (cb : ob.ExactDict) (db : ob.data = .dict #[] eq) (hu : A.units < cLine) (h : Q (.bool (!decide (es.size = 0))) s) : wpAny (model prog w) A (compareOp .NotEq (.ref a) (.ref b)) Q E s := by
  have ta : s.TypeIs (.ref a) "dict" := ⟨oa, ga, ca.1⟩
  have tb : s.TypeIs (.ref b) "dict" := ⟨ob, gb, cb.1⟩
  refine wpAny_richCompare_same_room (op := .NotEq) ta tb PySem.F.slot_dict_ne (wpAny_call_entry PySem.F.slot_dict_ne ta PySem.F.entry_dict_ne ?_ (PySem.F.args_dict_ne_2 _ _)) hu
  show wpAny _ _ (Builtin.Dict.dictSlotArgs "__ne__" ⟨[.ref a, .ref b], []⟩ >>= _) _ _ s
  refine wpAny_bind (m := Builtin.Dict.dictSlotArgs "__ne__" ⟨[.ref a, .ref b], []⟩) ?_
  unfold Builtin.Dict.dictSlotArgs
  refine wpAny_bind (wpAny_notOrdered_dict ta (wpAny_pure ?_))
  refine wpAny_bind (wpAny_isInstance (T := "dict") tb PySem.F.sub_dict_dict ?_)
  simp only [Bool.not_true, Bool.false_eq_true, if_false]
  refine wpAny_bind (wpAny_pure (wpAny_bind (wpAny_pure (wpAny_bind ?_))))
  unfold Builtin.Dict.samePairs Builtin.Dict.showsAll
  rw [if_neg (by rw [na]; simp), if_neg (by rw [nb]; simp)]
  refine wpAny_bind (wpAny_pure (wpAny_bind (wpAny_pure (wpAny_bind (wpAny_dictEntries ga da ?_)))))
  dsimp only
  refine wpAny_bind (wpAny_dictEntries gb db ?_)
  by_cases z : es.size = 0
  · rw [decide_eq_true z] at h
    rw [if_neg (by rw [z]; simp)]
    refine wpAny_bind (wpAny_dictEpoch ga da (wpAny_bind ?_))
    rw [Std.Legacy.Range.forIn_eq_forIn_range']
    simp only [Std.Legacy.Range.size, z, Nat.sub_zero, Nat.add_sub_cancel, Nat.div_one, List.range'_zero, List.forIn_nil]
    refine wpAny_pure (wpAny_pure ?_)
    exact wpAny_pure ⟨_, rfl, (fun z => nomatch z), h⟩
  · rw [decide_eq_false z] at h
    rw [if_pos (by simpa using z)]
    exact wpAny_bind (wpAny_rule (wpAny_pure (wpAny_pure ⟨_, rfl, (fun z => nomatch z), h⟩)))
end
section
variable {X : Cx}
theorem o_neE (hu : X.A.units + 64 < cLine) : OpR X (compareOp .NotEq) (g2 (kw X) neE) := by
  intro pins s σ H x y v u Q I rx ry h
  obtain ⟨d, e, z, hd, he, hF, hp⟩ := h
  unfold neE at hF
  split at hF
  · rename_i kvs
    cases hF
    obtain ⟨a, kv, rfl, f1, k1, g1⟩ := hd
    obtain ⟨b, kv2, rfl, f2, k2, g2⟩ := he
    cases rx
    cases ry
    obtain ⟨_, s1, xs, kt1, o1, es1, ep1, h1, h2, h3, h4, _⟩ := dt_rd I.hok f1
    obtain ⟨_, s2, ys, kt2, o2, es2, ep2, i1, i2, i3, i4, _⟩ := dt_rd I.hok f2
    have l2 : es2 = #[] := by
      have q1 := congrArg List.length k2
      have q2 : kv2.length = ys.length := Paired.length kt2
      have q3 := congrArg List.length i4
      simp at q1 q3
      rw [q1] at q2
      have : es2.size = 0 := by rw [q3, ← q2]; rfl
      exact Array.eq_empty_of_size_eq_zero this
    subst l2
    have l1 : decide (es1.size = 0) = decide (kvs = []) := by
      have q1 := congrArg List.length k1
      have q2 : kv.length = xs.length := Paired.length kt1
      have q3 := congrArg List.length h4
      simp at q1 q3
      rw [q3, ← q2, q1]
      cases kvs <;> simp
    refine ne_none s1 s2 h1 h2 h3 i1 i2 i3 (by omega) ?_
    rw [l1]
    exact ⟨.bl _, H, I, rfl, pst_dat hp (.bl _)⟩
  · cases hF
end
end DL

/-! DL33: three stores at once; slices of texts; a set comprehension that is stored. -/
namespace DL
open L2 PySem PySem.Spec PyProof.Rows PySem.W

section
variable {X : Cx} {R : List Nat} {a b c : Expr} {pos : Pos}
theorem ds_par3 (i j l : Nat) {x y z : Str} {fa fb fc : FE} {px py pz pt : Pos} {kt k2 : Nat} {pt2 : Pos} (hc : X.calm = true) (hN : X.N.Nodup) (ha : DE X R a fa) (hb : DE X R b fb) (hd : DE X R c fc) (hi : X.N[i]? = some x := by rfl) (hj : X.N[j]? = some y := by rfl) (hl : X.N[l]? = some z := by rfl) (hij : i ≠ j := by decide) (hil : i ≠ l := by decide) (hjl : j ≠ l := by decide)
    (hx : X.env.scope.names.lookup x = some .local := by rfl) (hy : X.env.scope.names.lookup y = some .local := by rfl) (hz : X.env.scope.names.lookup z = some .local := by rfl)
    (hw : swappedStores [.Tuple [.Name x px, .Name y py, .Name z pz] kt pt] (.Tuple [a, b, c] k2 pt2) X.env = pure (some [x, y, z]) := by rfl)
    (hs : swapsWithSole [.Tuple [.Name x px, .Name y py, .Name z pz] kt pt] (.Tuple [a, b, c] k2 pt2) pos.line X.env = pure false := by rfl)
    (hs1 : starEach [a, b, c] X.env = (false, eval a X.env) :: starEach [b, c] X.env := by rfl) (hs2 : starEach [b, c] X.env = (false, eval b X.env) :: starEach [c] X.env := by rfl) (hs3 : starEach [c] X.env = (false, eval c X.env) :: starEach [] X.env := by rfl) :
    DS X R (.Assign [.Tuple [.Name x px, .Name y py, .Name z pz] kt pt] (.Tuple [a, b, c] k2 pt2) pos) (par3F R i j l fa fb fc) :=
  ps_imp (ps_par3 hc hN hi hj hl hij hil hjl hx hy hz (pa_cons ha (pa_cons hb (pa_cons hd pa_nil hs3) hs2) hs1) hw hs) fun D σ H h => by
    obtain ⟨H0, S, ρ, fl, ρ', hR, bd, q, k⟩ := h
    simp only [par3F, Option.bind_eq_some_iff] at q
    obtain ⟨⟨ra, ρ1⟩, q1, ⟨rb, ρ2⟩, q2, ⟨rc, ρ3⟩, q3, ρ4, q4, ρ5, q5, ρ6, q6, q7⟩ := q
    cases q7
    subst hR
    refine tE_bd (fun _ _ _ z => z) bd q1 fun v H1 b1 z1 o1 => ?_
    refine ⟨ρ1, rb, ρ2, b1.env, q2, fun w H2 k2 ok2 o2 => ?_⟩
    have b2 := b1.step k2 ok2
    refine ⟨ρ2, rc, ρ3, ok2, q3, fun u H3 k3 ok3 o3 => ?_⟩
    have b3 := b2.step k3 ok3
    have o1a := RvOk.later o1 b1.env k2
    have o1b := RvOk.later o1a ok2 k3
    have o2a := RvOk.later o2 ok2 k3
    refine ⟨v, w, u, rfl, ?_⟩
    have c1 := b3.put o1b bd.trk q4
    have p2 := RvOk.put o2a o1b q4 b3.env.len (putS_ns q5) (own_apart o1 o2)
    have p3 := RvOk.put o3 o1b q4 b3.env.len (putS_ns q6) (own_apart o1a o3)
    have c2 := c1.put p2 b1.trk q5
    have p3' := RvOk.put p3 p2 q5 c1.env.len (putS_ns q6) (own_apart o2 o3)
    exact k _ H3 (c2.put p3' b2.trk q6) ((z1.trans (k2.fz b1.env)).trans (k3.fz ok2))
end
/-! ### slices of texts -/
abbrev FO := EnvD → Option (Option Int × EnvD)
def noneO : FO := fun ρ => some (none, ρ)
def someO (f : FE) : FO := fun ρ => (f ρ).bind fun p => match p.1 with
  | .dat (.int i) => some (some i, p.2)
  | _ => none
def cutD : D → Option Int → Option Int → Option D
  | .str z, lo, hi => if z.length ≤ sizeLine then some (.str (cutS z lo hi)) else none
  | _, _, _ => none
theorem cutD_inv {d z : D} {lo hi : Option Int} (h : cutD d lo hi = some z) : ∃ t, d = .str t ∧ t.length ≤ sizeLine ∧ z = .str (cutS t lo hi) := by
  cases d with
  | str t =>
    by_cases hz : t.length ≤ sizeLine
    · have e : cutD (.str t) lo hi = some (.str (cutS t lo hi)) := by show (if _ then _ else _) = _; rw [if_pos hz]
      rw [e] at h
      cases h
      exact ⟨t, rfl, hz, rfl⟩
    · have e : cutD (.str t) lo hi = none := by show (if _ then _ else _) = _; rw [if_neg hz]
      rw [e] at h
      cases h
  | _ => cases h
def slcF (f : FE) (lo hi : FO) : FE := fun ρ => (f ρ).bind fun p => (lo p.2).bind fun l => (hi l.2).bind fun u => (rd u.2 p.1).bind fun d => (cutD d l.1 u.1).bind fun e => some (.dat e, u.2)
def tO (K : KW) (R : List Nat) (f : FO) : TO := fun σ H Q => ∃ ρ i ρ', EnvOk K H σ ρ ∧ f ρ = some (i, ρ') ∧ ∀ H', Kp R σ ρ H ρ' H' → EnvOk K H' σ ρ' → Q i H'
section
variable {X : Cx} {R : List Nat}
theorem po_imp {e : Option Expr} {t t' : TO} (h : PO X e t) (q : ∀ σ H Q, t' σ H Q → t σ H Q) : PO X e t' := ⟨fun pins s σ H Q I x => h.run pins s σ H Q I (q σ H Q x)⟩
theorem do_none : PO X none (tO (kw X) R noneO) := po_imp po_none fun σ H Q ⟨ρ, i, ρ', ok, q, k⟩ => by
  cases q
  exact k H Kp.refl ok
theorem do_some {e : Expr} {f : FE} (h : DE X R e f) : PO X (some e) (tO (kw X) R (someO f)) := po_imp (po_some h) fun σ H Q ⟨ρ, i, ρ', ok, q, k⟩ => by
  simp only [someO, Option.bind_eq_some_iff] at q
  obtain ⟨⟨r, ρ1⟩, q1, q2⟩ := q
  split at q2
  · rename_i n er
    obtain rfl : r = .dat (.int n) := er
    cases q2
    exact ⟨ρ, _, ρ1, ok, q1, fun v H' k1 ok1 o1 => ⟨n, dv_int o1, k H' k1 ok1⟩⟩
  · cases q2
theorem de_slc {e : Expr} {lo hi : Option Expr} {fe : FE} {fl fh : FO} {pos p2 : Pos} (he : DE X R e fe) (hl : PO X lo (tO (kw X) R fl)) (hh : PO X hi (tO (kw X) R fh)) : DE X R (.Subscript e (.Slice lo hi none p2) pos) (slcF fe fl fh) :=
  pe_imp (pe_slice sl_str he hl hh) fun σ H Q hq => by
    obtain ⟨ρ, r', ρ', ok, q, k⟩ := hq
    simp only [slcF, Option.bind_eq_some_iff] at q
    obtain ⟨⟨r, ρ1⟩, q1, ⟨l, ρ2⟩, q2, ⟨u, ρ3⟩, q3, d, q4, z, q5, q6⟩ := q
    cases q6
    obtain ⟨t, rfl, hz, rfl⟩ := cutD_inv q5
    refine ⟨ρ, r, ρ1, ok, q1, fun v H1 k1 ok1 o1 => ⟨ρ1, l, ρ2, ok1, q2, fun H2 k2 ok2 => ⟨ρ2, u, ρ3, ok2, q3, fun H3 k3 ok3 => ?_⟩⟩⟩
    have o3 := RvOk.later (RvOk.later o1 ok1 k2) ok2 k3
    have rv := RvOk.rd o3 ok3 q4
    exact ⟨t, rv_str rv, hz, k _ H3 ((k1.trans k2).trans k3) ok3 (.str _)⟩
end
/-! ### y = {..} on one line -/
section
variable {X : Cx} {R : List Nat} {elt tg iter : Expr} {ifs : List Expr} {scope : Scope} {own : List (Str × Nat)} {pos : Pos}
theorem sw_set {gs : List Comprehension} {py : Pos} {y : Str} {l : Nat} {env : Env} (hk : env.scope.kind = .function) (hy : env.scope.names.lookup y = some .local) (hl : (py.line == pos.line) = true)
    (ha : (scope.names.any fun (n, k) => n == y && (k == .local || k == .cell)) = false) : swapsWith (.SetComp elt gs scope pos) (some (.Name y py)) l env = pure true := by
  have ky : env.kindOf y = some .local := hy
  have kb : env.blockKind = .function := by unfold Env.blockKind; rw [hk]; rfl
  unfold swapsWith
  simp only [kb, ky, ha, Expr.pos, hl]
  rfl
theorem ds_setSc (i : Nat) {y : Str} {py spos : Pos} {fi : FI} {g : FG} {t : FT} {f : FE} (hc : X.calm = true) (hN : X.N.Nodup) (hi : DI X R tg iter fi) (ok : BlkOk X.N X.env.scope scope own)
    (hg : ∀ (s : Shared) (H : Hp) (C : Addr) (cl : List (Str × Addr)) (fp : List Addr), PG (X.blk s H scope (compEnvC scope cl C X.env) fp) tg (tG (kw X) (own.map (·.2)) g))
    (ht : ∀ (s : Shared) (H : Hp) (C : Addr) (cl : List (Str × Addr)) (fp : List Addr), PTs (X.blk s H scope (compEnvC scope cl C X.env) fp) ifs (tT (kw X) R t))
    (he : ∀ (s : Shared) (H : Hp) (C : Addr) (cl : List (Str × Addr)) (fp : List Addr), PE (X.blk s H scope (compEnvC scope cl C X.env) fp) elt (tE (kw X) R f))
    (hy : X.N[i]? = some y := by rfl) (hyl : X.env.scope.names.lookup y = some .local := by rfl) (hsw : swapsWith (.SetComp elt [⟨tg, iter, ifs, 0⟩] scope pos) (some (.Name y py)) spos.line X.env = pure true := by exact sw_set rfl rfl rfl (by decide +kernel))
    (hs : ∀ x, foldedSetIterable iter X.env x = pure x := by intro _; rfl) : DS X R (.Assign [.Name y py] (.SetComp elt [⟨tg, iter, ifs, 0⟩] scope pos) spos) (setF R i (scF (own.map (·.2)) fi g t f)) := by
  refine ⟨fun pins s σ H D I h => ?_⟩
  obtain ⟨H0, S, ρ, fl, ρ', hR, b, q, k⟩ := h
  simp only [setF, scF, Option.bind_eq_some_iff] at q
  obtain ⟨⟨r, ρ2⟩, ⟨⟨ds, ρ1⟩, q1, q2⟩, ρ3, q8, q9⟩ := q
  cases q9
  subst hR
  split at q2
  · rename_i hn
    simp only [Option.bind_eq_some_iff] at q2
    obtain ⟨⟨l, ρ2'⟩, q3, q4⟩ := q2
    cases q4
    have red : tComp (tI (kw X) (S.map Prod.fst) fi) (tG (kw X) (own.map (·.2)) g) (tT (kw X) (S.map Prod.fst) t) (bodyS X.w (tE (kw X) (S.map Prod.fst) f)) (own.map (·.2)) (fun D => TxO X.w D []) σ H fun v H' => ∃ D, v = .ref D ∧ Kp (S.map Prod.fst) σ ρ H ρ2' H' ∧ EnvOk (kw X) H' σ ρ2' ∧ H D = none ∧ (∀ j, ¬ OwnS σ ρ2' j D) ∧ H' D = some (TxO X.w D l) := by
      refine comp_red (At := fun H D a => H D = some (TxO X.w D a)) (fun H D a h => ⟨_, h, id⟩) (fun H H' D a f e h => by rw [e]; exact h) (fun H D hD => upd_same) (fun D σ2 H3 ρb a a' ρe Nx ok3 at3 nD q5 kN => ?_) b.env q1 hn q3 fun D H' k1 ok1 hD nD at1 => ⟨D, rfl, k1, ok1, hD, nD, at1⟩
      simp only [stepS, Option.bind_eq_some_iff] at q5
      obtain ⟨⟨rk, ρk⟩, q6, q7⟩ := q5
      split at q7
      · rename_i dk erk
        obtain rfl : rk = .dat (.str dk) := erk
        split at q7
        · rename_i sz
          cases q7
          refine ⟨ρb, _, _, ok3, q6, fun y H4 k4 ok4 o4 => ⟨dk, a, ?_, k4.obj D _ at3 fun j hj => nD j hj, sz, kN H4 _ k4 ok4 upd_same⟩⟩
          cases (show Dv (kw X) H4 y (.str dk) from o4)
          rfl
        · cases q7
      · cases q7
    rw [exec_Assign_Name_used _ _ _ _ hsw]; refine wpAny_bind (wpAny_standAt (wpAny_bind ?_))
    show wpAny _ X.A (do let _ ← comprehension (.SetComp elt [⟨tg, iter, ifs, 0⟩] scope pos) scope X.env (firstIterPos [⟨tg, iter, ifs, 0⟩] pos) (newSet (.type "set")) false (eval iter X.env) (some (assign (.Name y py) X.env))) _ _ s
    refine wpAny_bind (thn (txc_core (Qf := fun _ s' => SP X pins D .next s') hc hN I hi ok hg ht he hs red fun L C s1 m H1 I1 q hn1 f1 => ?_) fun _ s' hq => wpAny_pure (wpAny_pure hq))
    show wpAny _ _ (assign (.Name y py) X.env (.ref L)) _ _ _
    refine wpAny_assign_Name (store_ok2 (v := V.ref L) I1 hN hy (.inl hyl) rfl (fun s2 I2 ⟨ad, sb, ha⟩ => ?_) (.inr hyl))
    obtain ⟨f0, f1, f2, f3, f4, f5⟩ := f1
    have haC : C ≠ ad := by
      rcases ha with z | z
      · rw [z]; exact f1
      · intro e; exact f4 y ad z e.symm
    refine ⟨m, hn1.sameBut sb haC, fun h3 sb3 => ?_⟩
    obtain ⟨D', e, k1, ok1, hD, nD, at1⟩ := q
    cases e
    have I3 := I2.turned (t' := s2.toks) (fun b o hb e => (sb3.2 b hb).trans e) f0 f1 f3 f4 f5
    have R3 : TxSet X.w h3 L l := (I3.hok L _ at1).1
    obtain ⟨od, I4⟩ := I3.lock at1 trivial
    have hod : h3.get? L = some od := (I4.hok L _ upd_same).1
    obtain ⟨o, es, ep, t, ho, hx, hd, SD⟩ := R3
    rw [hod] at ho
    cases ho
    have fz := fz_upd (o := od) at1 id
    have kk : Kp (S.map Prod.fst) σ ρ H ρ2' (upd H1 L (.frz od (TxO X.w L l))) := ⟨fun b o hb hn => by rw [upd_ne (ne_of_none hb hD)]; exact k1.obj b o hb hn, fun b hb => by
      by_cases hbL : b = L
      · rw [hbL]; exact hD
      · rw [upd_ne hbL] at hb
        exact k1.trk b hb, k1.own, k1.ref, k1.full⟩
    have oo : EnvOk (kw X) (upd H1 L (.frz od (TxO X.w L l))) σ ρ2' := ⟨ok1.len, fun i y e2 => by
      obtain ⟨v, e3, hv⟩ := ok1.at' i y e2
      refine ⟨v, e3, ?_⟩
      cases y with
      | dat d => exact Dv.mono fz hv
      | own y =>
        obtain ⟨b, rfl, ho⟩ := hv
        have hb : b ≠ L := fun z => nD i ⟨⟨y, e2⟩, by rw [← z]; exact e3⟩
        exact ⟨b, rfl, ho.mono fz (upd_ne hb)⟩, ok1.sep⟩
    have b2 := (b.step kk oo).put (r := .dat (.sS l)) (v := .ref L) (H1 := H) (show Dv (kw X) _ (.ref L) (.sS l) from .sS upd_same hx hd SD) b.trk q8
    exact ⟨_, _, I4, k _ _ b2 (kk.fz b.env)⟩
  · cases q2
end
end DL

/-! DL34: d.values() that is walked, d a dict whose keys are tuples. -/
namespace DL
open L2 PySem PySem.Spec PyProof.Rows PySem.W

/-- the values of the locked dict at d -/
def Itw (d : Addr) (o : Obj) (kvs : List (List Key × V)) : It :=
  ⟨fun i H => H d = some (.frz o (.dT kvs)) ∧ i < kvs.length, fun i H x H' => H' = H ∧ ∃ k : List Key, kvs[i]? = some (k, x), fun i H => H d = some (.frz o (.dT kvs)) ∧ kvs.length ≤ i⟩
section
variable {X : Cx} {pins : List (Addr × Obj)} {σ : Sl} {H : Hp} {s : Shared} {d : Addr} {o : Obj} {kvs : List (List Key × V)}
theorem frzW (I : Inv X pins σ H s) (h : H d = some (.frz o (.dT kvs))) : (d == sysModules) = false ∧ s.heap.get? d = some o ∧ o.ExactDict ∧ ∃ (es : Array DictEntry) (ep : Nat), o.data = .dict es ep ∧ es.size = kvs.length ∧
    ∀ (i : Nat) (k : List Key) (v : V), kvs[i]? = some (k, v) → ∃ en : DictEntry, es[i]? = some en ∧ RelV v en.val := by
  obtain ⟨hd, z, hs, xs, pr, o', es, ep, ho, hx, hdt, he, _⟩ := I.hok d _ h
  rw [hd] at ho
  cases ho
  refine ⟨hs, hd, hx, es, ep, hdt, (by have l1 : es.size = xs.length := size_of_entries he
                                       have l2 : kvs.length = xs.length := Paired.length pr
                                       omega), fun i k v e => ?_⟩
  obtain ⟨b, hb, e1, e2, e3⟩ := paired_get pr e
  have q := entry_at he i
  rw [hb] at q
  exact ⟨_, q, e3⟩
end
section
variable {P : Program} {w : World} {K : PySem.W.Frag} {tg : Expr} {d : Addr} {o : Obj} {es : Array DictEntry} {ep : Nat}
theorem turn_w {kvs : List (List Key × V)} (it : Addr) (hod : o.data = .dict es ep) : Turn P w K tg (Itw d o kvs) [it] it (fun i h => h.IsValIter it d i kvs.length ep) where
  mem := by simp
  obj := fun i h st b hb => by
    obtain rfl : b = it := by simpa using hb
    obtain ⟨oi, e, _, dd⟩ := st
    exact ⟨oi, e, fun v z => by rw [dd] at z; cases z⟩
  keep := fun i h h' st k => st.at fun oi e => k it (by simp) oi e
  item := by
    intro X hP hw hK hc i pins s σ H E I hf st hg
    subst hP hw hK
    obtain ⟨hd, hi⟩ := hg
    obtain ⟨a0, a1, a2, a3, a4, a5⟩ := hf it (by simp)
    obtain ⟨hs, hgd, hx, es', ep', hdt, hsz, ent⟩ := frzW I hd
    obtain ⟨rfl, rfl⟩ := dict_ep hod hdt
    obtain ⟨⟨k, v⟩, hkv⟩ : ∃ p, kvs[i]? = some p := ⟨kvs[i], List.getElem?_eq_getElem hi⟩
    obtain ⟨en, hen, hv⟩ := ent i k v hkv
    rw [← hsz] at st
    have hl : i < es'.size := by rw [hsz]; exact hi
    refine wpAny_pyNext_values_item_raw st ⟨o, hgd, hx, hdt⟩ hl fun h' st' sb => ?_
    have e0 : es'[i] = en := by
      rw [Array.getElem?_eq_getElem hl] at hen
      exact Option.some.inj hen
    have I1 : Inv X pins σ H { s with heap := h' } := I.turned (t' := s.toks) (fun b ob hb e => (sb.2 b hb).trans e) a0 a1 a3 a4 a5
    obtain ⟨oi, e, c, dd⟩ := id st'
    rw [e0]
    refine ⟨en.val, rfl, go_of (s := { s with heap := h' }) e c dd (by decide) ⟨v, H, I1, hv, ⟨rfl, k, hkv⟩, ?_, fun b hb => (hf b hb).1⟩⟩
    rw [hsz] at st'
    exact st'
  done := by
    intro X hP hw hK hc i pins s σ H E I hf st hg
    subst hP hw hK
    obtain ⟨hd, hi⟩ := hg
    obtain ⟨a0, a1, a2, a3, a4, a5⟩ := hf it (by simp)
    obtain ⟨hs, hgd, hx, es', ep', hdt, hsz, ent⟩ := frzW I hd
    obtain ⟨rfl, rfl⟩ := dict_ep hod hdt
    rw [← hsz] at st
    exact wpAny_pyNext_values_end_raw (I.ok.hd hc) st ⟨o, hgd, hx, hdt⟩ (by omega) fun h' eb => ⟨rfl, I.turned (t' := s.toks) (fun b ob hb e => eb b ob hb e) a0 a1 a3 a4 a5⟩
  self := fun A i s Q E st h => wpAny_pyIter_valiter st h
end
section
variable {K : KW} {H : Hp}
theorem goes_w {a : Addr} {o : Obj} {kv : List (List Key × V)} {kvs : List (List Key × D)} (h : H a = some (.frz o (.dT kv))) (hd : Dvs K H (kv.map (·.2)) (kvs.map (·.2))) : GoesD K H (Itw a o kv) (kvs.map (·.2)) := fun H' z i => by
  have h' : H' a = some (.frz o (.dT kv)) := by rw [z a (by rw [h]; exact trivial), h]
  have hm := hd.mono z
  refine ⟨fun hi => ⟨h', by have := hd.length; rw [List.length_map] at this; omega⟩, fun d e1 => ?_⟩
  obtain ⟨v, e2, hv⟩ := hm.get e1
  rw [List.getElem?_map, Option.map_eq_some_iff] at e2
  obtain ⟨⟨k, v'⟩, e3, rfl⟩ := e2
  refine ⟨⟨h', (List.getElem?_eq_some_iff.mp e3).1⟩, fun x H'' ⟨y1, k', y2⟩ => ?_⟩
  subst y1
  rw [e3] at y2; cases y2
  exact ⟨Same.refl _, hv⟩
end
def valsD (f : FE) : FI := fun ρ => (f ρ).bind fun p => match p.1 with
  | .dat (.dK kvs) => some (kvs.map (·.2), p.2)
  | .dat (.dT kvs) => some (kvs.map (·.2), p.2)
  | _ => none
section
variable {X : Cx} {R : List Nat} {tg e : Expr} {fe : FE}
theorem di_valsD {apos cpos : Pos} (he : DE X R e fe) (hbase : attributeBase e "values" X.env (eval e X.env) = eval e X.env := by rfl) (hline : (apos.endLine == cpos.line) = true := by rfl) : DI X R tg (.Call (.Attribute e "values" apos) [] [] cpos) (valsD fe) := by
  refine ⟨fun pins s σ H Q I h => ?_⟩
  obtain ⟨ρ, ds, ρ', ok, q, k⟩ := h
  simp only [valsD, Option.bind_eq_some_iff] at q
  obtain ⟨⟨r, ρ1⟩, q1, q2⟩ := q
  split at q2
  · rename_i kvs er
    obtain rfl : r = .dat (.dK kvs) := er
    cases q2
    exact (di_vals he hbase hline).run pins s σ H Q I ⟨ρ, _, ρ1, ok, by simp only [valsI, q1, Option.bind_some], k⟩
  · rename_i kvs er
    obtain rfl : r = .dat (.dT kvs) := er
    cases q2
    refine wpAny_Call_method (T := "dict") (id := "dict.values") hbase rfl hline F.plainAttrs_dict F.slot_dict_values F.type_dict_values (thn (tE_run he I ok q1) fun u s1 ⟨x, H1, I1, rx, k1, ok1, o1⟩ => ?_)
    cases (show Dv (kw X) H1 x (.dT kvs) from o1) with
    | @dT d o kv kvs' h1 h2 h3 =>
      cases rx
      obtain ⟨hs, hgd, hx, es, ep, hdt, hsz, ent⟩ := frzW I1 h1
      have raw : s1.heap.DictRaw d es ep := ⟨o, hgd, hx, hdt⟩
      refine ⟨raw.typeIs, fun b eb => ?_, ?_⟩
      · cases eb
        exact ⟨o, hgd, hx.2.1⟩
      · refine Calls.callWith_builtin rfl (PySem.evalArgs_none ?_)
        refine call_meetsIn F.slot_dict_values raw.typeIs F.entry_dict_values (F.args_dict_values_1 _) (meets_dict_values_raw d hs) ⟨⟨es, ep, raw⟩, ?_⟩
        have I2 : Inv X pins σ H1 { s1 with heap := s1.heap.push { cls := .type "dict_values", data := .fields #[.ref d] } } := I1.kept (t' := s1.toks) fun b ob q => Heap.get?_push_of_some _ q
        refine wpAny_pyIter_values_raw (d := d) ⟨_, Heap.get?_push_size _ rfl, rfl, rfl⟩ (raw.push _) (pi_one (tk := s1.toks) I2 _ (turn_w (o := o) _ hdt) ⟨_, Heap.get?_push_size _ rfl, rfl, ?_⟩ (k _ H1 k1 ok1 (goes_w h1 h3)))
        rw [hsz] <;> rfl
  · cases q2
end
end DL

namespace LawT
open DL L2 PySem PySem.Spec PyProof.Rows
def topS (i : Nat) : Stmt := PySem.Challenge.pw_sameending_k04_whole_walks.main.body.getD i (.Pass ⟨0, 0, 0, 0⟩)
abbrev s_is_whole : Stmt := topS 10
theorem sc_is_whole : FnScope ["value"] ["value"] (defScope s_is_whole) := ⟨rfl, rfl, rfl, by decide +kernel, rfl, by decide +kernel, by decide +kernel⟩
abbrev s_is_pair : Stmt := topS 13
theorem sc_is_pair : FnScope ["value"] ["value"] (defScope s_is_pair) := ⟨rfl, rfl, rfl, by decide +kernel, rfl, by decide +kernel, by decide +kernel⟩
abbrev s_is_letter : Stmt := topS 14
theorem sc_is_letter : FnScope ["value"] ["value"] (defScope s_is_letter) := ⟨rfl, rfl, rfl, by decide +kernel, rfl, by decide +kernel, by decide +kernel⟩
abbrev s_is_letters : Stmt := topS 15
theorem sc_is_letters : FnScope ["value", "letter"] ["value"] (defScope s_is_letters) := ⟨rfl, rfl, rfl, by decide +kernel, rfl, by decide +kernel, by decide +kernel⟩
abbrev s_told : Stmt := topS 19
theorem sc_told : FnScope ["numbers", "letter"] ["numbers"] (defScope s_told) := ⟨rfl, rfl, rfl, by decide +kernel, rfl, by decide +kernel, by decide +kernel⟩
abbrev s_reads_in : Stmt := topS 29
theorem sc_reads_in : FnScope ["machine", "place", "letter"] ["machine"] (defScope s_reads_in) := ⟨rfl, rfl, rfl, by decide +kernel, rfl, by decide +kernel, by decide +kernel⟩
abbrev s_sends_in : Stmt := topS 30
theorem sc_sends_in : FnScope ["machine", "mails", "goal", "mail"] ["machine"] (defScope s_sends_in) := ⟨rfl, rfl, rfl, by decide +kernel, rfl, by decide +kernel, by decide +kernel⟩
abbrev s__law_dice : Stmt := topS 42
theorem sc__law_dice : FnScope ["script", "spot", "cell", "left"] ["script", "spot"] (defScope s__law_dice) := ⟨rfl, rfl, rfl, by decide +kernel, rfl, by decide +kernel, by decide +kernel⟩
abbrev s__law_roll : Stmt := topS 43
theorem sc__law_roll : FnScope ["dice", "total", "found", "one", "two"] ["dice", "total"] (defScope s__law_roll) := ⟨rfl, rfl, rfl, by decide +kernel, rfl, by decide +kernel, by decide +kernel⟩
abbrev s__law_counts : Stmt := topS 46
theorem sc__law_counts : FnScope ["row", "letter"] ["row"] (defScope s__law_counts) := ⟨rfl, rfl, rfl, by decide +kernel, rfl, by decide +kernel, by decide +kernel⟩
abbrev s__law_told : Stmt := topS 47
theorem sc__law_told : FnScope ["numbers", "letter"] ["numbers"] (defScope s__law_told) := ⟨rfl, rfl, rfl, by decide +kernel, rfl, by decide +kernel, by decide +kernel⟩
abbrev s__law_reads : Stmt := topS 49
theorem sc__law_reads : FnScope ["machine", "key"] ["machine"] (defScope s__law_reads) := ⟨rfl, rfl, rfl, by decide +kernel, rfl, by decide +kernel, by decide +kernel⟩
abbrev s__law_sends : Stmt := topS 55
theorem sc__law_sends : FnScope ["machine", "key"] ["machine"] (defScope s__law_sends) := ⟨rfl, rfl, rfl, by decide +kernel, rfl, by decide +kernel, by decide +kernel⟩
abbrev s_is_short : Stmt := topS 11
theorem sc_is_short : FnScope ["value"] ["value"] (defScope s_is_short) := ⟨rfl, rfl, rfl, by decide +kernel, rfl, by decide +kernel, by decide +kernel⟩
abbrev s_is_within : Stmt := topS 12
theorem sc_is_within : FnScope ["value", "least", "most"] ["value", "least", "most"] (defScope s_is_within) := ⟨rfl, rfl, rfl, by decide +kernel, rfl, by decide +kernel, by decide +kernel⟩
abbrev s_counts_in : Stmt := topS 20
theorem sc_counts_in : FnScope ["row", "letter"] ["row"] (defScope s_counts_in) := ⟨rfl, rfl, rfl, by decide +kernel, rfl, by decide +kernel, by decide +kernel⟩
abbrev s_is_row_in : Stmt := topS 21
theorem sc_is_row_in : FnScope ["value"] ["value"] (defScope s_is_row_in) := ⟨rfl, rfl, rfl, by decide +kernel, rfl, by decide +kernel, by decide +kernel⟩
abbrev s_is_mail : Stmt := topS 27
theorem sc_is_mail : FnScope ["value"] ["value"] (defScope s_is_mail) := ⟨rfl, rfl, rfl, by decide +kernel, rfl, by decide +kernel, by decide +kernel⟩
abbrev s_require_read : Stmt := topS 33
theorem sc_require_read : FnScope ["machine", "letter"] ["machine", "letter"] (defScope s_require_read) := ⟨rfl, rfl, rfl, by decide +kernel, rfl, by decide +kernel, by decide +kernel⟩
abbrev s__law_pick : Stmt := topS 44
theorem sc__law_pick : FnScope ["dice", "items"] ["dice", "items"] (defScope s__law_pick) := ⟨rfl, rfl, rfl, by decide +kernel, rfl, by decide +kernel, by decide +kernel⟩
abbrev s__law_added : Stmt := topS 48
theorem sc__law_added : FnScope ["one", "other", "letter"] ["one", "other"] (defScope s__law_added) := ⟨rfl, rfl, rfl, by decide +kernel, rfl, by decide +kernel, by decide +kernel⟩
abbrev s__law_walked : Stmt := topS 50
theorem sc__law_walked : FnScope ["machine", "place", "row", "here", "sent", "letter", "mail"] ["machine", "place", "row"] (defScope s__law_walked) := ⟨rfl, rfl, rfl, by decide +kernel, rfl, by decide +kernel, by decide +kernel⟩
abbrev s__law_both : Stmt := topS 52
theorem sc__law_both : FnScope ["one", "other", "pairs", "steps", "letters", "at", "letter", "i", "j", "left", "right"] ["one", "other"] (defScope s__law_both) := ⟨rfl, rfl, rfl, by decide +kernel, rfl, by decide +kernel, by decide +kernel⟩
abbrev s_require_number : Stmt := topS 16
theorem sc_require_number : FnScope ["value", "least", "most"] ["value", "least", "most"] (defScope s_require_number) := ⟨rfl, rfl, rfl, by decide +kernel, rfl, by decide +kernel, by decide +kernel⟩
abbrev s_require_row : Stmt := topS 22
theorem sc_require_row : FnScope ["value"] ["value"] (defScope s_require_row) := ⟨rfl, rfl, rfl, by decide +kernel, rfl, by decide +kernel, by decide +kernel⟩
abbrev s_is_step_key : Stmt := topS 28
theorem sc_is_step_key : FnScope ["key", "places"] ["key", "places"] (defScope s_is_step_key) := ⟨rfl, rfl, rfl, by decide +kernel, rfl, by decide +kernel, by decide +kernel⟩
abbrev s_walked : Stmt := topS 31
theorem sc_walked : FnScope ["machine", "place", "row", "here", "sent", "letter", "mail"] ["machine", "place", "row"] (defScope s_walked) := ⟨rfl, rfl, rfl, by decide +kernel, rfl, by decide +kernel, by decide +kernel⟩
abbrev s__law_row_drawn : Stmt := topS 45
theorem sc__law_row_drawn : FnScope ["dice", "most", "letters", "turn"] ["dice", "most", "letters"] (defScope s__law_row_drawn) := ⟨rfl, rfl, rfl, by decide +kernel, rfl, by decide +kernel, by decide +kernel⟩
abbrev s_require_read_row : Stmt := topS 34
theorem sc_require_read_row : FnScope ["machine", "row", "letters", "letter"] ["machine", "row"] (defScope s_require_read_row) := ⟨rfl, rfl, rfl, by decide +kernel, rfl, by decide +kernel, by decide +kernel⟩
abbrev s_is_machine : Stmt := topS 35
theorem sc_is_machine : FnScope ["value", "places", "steps", "letters", "goals", "place", "letter", "step", "key"] ["value"] (defScope s_is_machine) := ⟨rfl, rfl, rfl, by decide +kernel, rfl, by decide +kernel, by decide +kernel⟩
abbrev s__law_unit_machine : Stmt := topS 51
theorem sc__law_unit_machine : FnScope ["dice", "reads", "sends", "most", "bound", "period", "steps", "mails", "letter", "weight", "place", "here", "sent", "unit"] ["dice", "reads", "sends", "most"] (defScope s__law_unit_machine) := ⟨rfl, rfl, rfl, by decide +kernel, rfl, by decide +kernel, by decide +kernel⟩
abbrev s_require_machine : Stmt := topS 32
theorem sc_require_machine : FnScope ["value"] ["value"] (defScope s_require_machine) := ⟨rfl, rfl, rfl, by decide +kernel, rfl, by decide +kernel, by decide +kernel⟩
abbrev s__law_even_machine : Stmt := topS 53
theorem sc__law_even_machine : FnScope ["dice", "reads", "sends", "most", "found"] ["dice", "reads", "sends", "most"] (defScope s__law_even_machine) := ⟨rfl, rfl, rfl, by decide +kernel, rfl, by decide +kernel, by decide +kernel⟩
abbrev s_reads_of : Stmt := topS 36
theorem sc_reads_of : FnScope ["machine"] ["machine"] (defScope s_reads_of) := ⟨rfl, rfl, rfl, by decide +kernel, rfl, by decide +kernel, by decide +kernel⟩
abbrev s_sends_of : Stmt := topS 37
theorem sc_sends_of : FnScope ["machine"] ["machine"] (defScope s_sends_of) := ⟨rfl, rfl, rfl, by decide +kernel, rfl, by decide +kernel, by decide +kernel⟩
abbrev s_step_of : Stmt := topS 38
theorem sc_step_of : FnScope ["machine", "place", "letter"] ["machine", "place", "letter"] (defScope s_step_of) := ⟨rfl, rfl, rfl, by decide +kernel, rfl, by decide +kernel, by decide +kernel⟩
abbrev s_walk : Stmt := topS 39
theorem sc_walk : FnScope ["machine", "place", "row"] ["machine", "place", "row"] (defScope s_walk) := ⟨rfl, rfl, rfl, by decide +kernel, rfl, by decide +kernel, by decide +kernel⟩
abbrev s_without : Stmt := topS 40
theorem sc_without : FnScope ["machine", "letters", "steps", "key", "goal", "mail", "letter"] ["machine", "letters"] (defScope s_without) := ⟨rfl, rfl, rfl, by decide +kernel, rfl, by decide +kernel, by decide +kernel⟩
abbrev s__law_any_machine : Stmt := topS 54
theorem sc__law_any_machine : FnScope ["dice", "reads", "sends", "most", "n", "steps", "place", "letter", "turn", "key", "other"] ["dice", "reads", "sends", "most"] (defScope s__law_any_machine) := ⟨rfl, rfl, rfl, by decide +kernel, rfl, by decide +kernel, by decide +kernel⟩
abbrev s__law_machine_right : Stmt := topS 56
theorem sc__law_machine_right : FnScope ["dice", "machine", "letters", "kept", "turn", "place", "row", "at", "first", "last", "letter", "some", "bare", "due", "key", "goal", "mail", "one"] ["dice", "machine"] (defScope s__law_machine_right) := ⟨rfl, rfl, rfl, by decide +kernel, rfl, by decide +kernel, by decide +kernel⟩
abbrev s_law : Stmt := topS 57
theorem sc_law : FnScope ["script", "spot", "dice", "turn", "reads", "steps", "wide", "told_v", "flip", "place"] ["script"] (defScope s_law) := ⟨rfl, rfl, rfl, by decide +kernel, rfl, by decide +kernel, by decide +kernel⟩
structure Txt (P : Program) (w : World) (K : PySem.W.Frag) (mg : Str → Option Value) (base : Heap) where
  f_is_whole : Addr
  d_is_whole : FuncData
  F_is_whole : Fun K "is_whole" "is_whole" s_is_whole f_is_whole d_is_whole
  g_is_whole : mg "is_whole" = some (.ref f_is_whole)
  b_is_whole : Binds K d_is_whole ["value"] []
  f_is_pair : Addr
  d_is_pair : FuncData
  F_is_pair : Fun K "is_pair" "is_pair" s_is_pair f_is_pair d_is_pair
  g_is_pair : mg "is_pair" = some (.ref f_is_pair)
  b_is_pair : Binds K d_is_pair ["value"] []
  f_is_letter : Addr
  d_is_letter : FuncData
  F_is_letter : Fun K "is_letter" "is_letter" s_is_letter f_is_letter d_is_letter
  g_is_letter : mg "is_letter" = some (.ref f_is_letter)
  b_is_letter : Binds K d_is_letter ["value"] []
  f_is_letters : Addr
  d_is_letters : FuncData
  F_is_letters : Fun K "is_letters" "is_letters" s_is_letters f_is_letters d_is_letters
  g_is_letters : mg "is_letters" = some (.ref f_is_letters)
  b_is_letters : Binds K d_is_letters ["value"] []
  f_told : Addr
  d_told : FuncData
  F_told : Fun K "told" "told" s_told f_told d_told
  g_told : mg "told" = some (.ref f_told)
  b_told : Binds K d_told ["numbers"] []
  f_reads_in : Addr
  d_reads_in : FuncData
  F_reads_in : Fun K "reads_in" "reads_in" s_reads_in f_reads_in d_reads_in
  g_reads_in : mg "reads_in" = some (.ref f_reads_in)
  b_reads_in : Binds K d_reads_in ["machine"] []
  f_sends_in : Addr
  d_sends_in : FuncData
  F_sends_in : Fun K "sends_in" "sends_in" s_sends_in f_sends_in d_sends_in
  g_sends_in : mg "sends_in" = some (.ref f_sends_in)
  b_sends_in : Binds K d_sends_in ["machine"] []
  f__law_dice : Addr
  d__law_dice : FuncData
  F__law_dice : Fun K "_law_dice" "_law_dice" s__law_dice f__law_dice d__law_dice
  g__law_dice : mg "_law_dice" = some (.ref f__law_dice)
  b__law_dice : Binds K d__law_dice ["script", "spot"] []
  f__law_roll : Addr
  d__law_roll : FuncData
  F__law_roll : Fun K "_law_roll" "_law_roll" s__law_roll f__law_roll d__law_roll
  g__law_roll : mg "_law_roll" = some (.ref f__law_roll)
  b__law_roll : Binds K d__law_roll ["dice", "total"] []
  f__law_counts : Addr
  d__law_counts : FuncData
  F__law_counts : Fun K "_law_counts" "_law_counts" s__law_counts f__law_counts d__law_counts
  g__law_counts : mg "_law_counts" = some (.ref f__law_counts)
  b__law_counts : Binds K d__law_counts ["row"] []
  f__law_told : Addr
  d__law_told : FuncData
  F__law_told : Fun K "_law_told" "_law_told" s__law_told f__law_told d__law_told
  g__law_told : mg "_law_told" = some (.ref f__law_told)
  b__law_told : Binds K d__law_told ["numbers"] []
  f__law_reads : Addr
  d__law_reads : FuncData
  F__law_reads : Fun K "_law_reads" "_law_reads" s__law_reads f__law_reads d__law_reads
  g__law_reads : mg "_law_reads" = some (.ref f__law_reads)
  b__law_reads : Binds K d__law_reads ["machine"] []
  f__law_sends : Addr
  d__law_sends : FuncData
  F__law_sends : Fun K "_law_sends" "_law_sends" s__law_sends f__law_sends d__law_sends
  g__law_sends : mg "_law_sends" = some (.ref f__law_sends)
  b__law_sends : Binds K d__law_sends ["machine"] []
  f_is_short : Addr
  d_is_short : FuncData
  F_is_short : Fun K "is_short" "is_short" s_is_short f_is_short d_is_short
  g_is_short : mg "is_short" = some (.ref f_is_short)
  b_is_short : Binds K d_is_short ["value"] []
  f_is_within : Addr
  d_is_within : FuncData
  F_is_within : Fun K "is_within" "is_within" s_is_within f_is_within d_is_within
  g_is_within : mg "is_within" = some (.ref f_is_within)
  b_is_within : Binds K d_is_within ["value", "least", "most"] []
  f_counts_in : Addr
  d_counts_in : FuncData
  F_counts_in : Fun K "counts_in" "counts_in" s_counts_in f_counts_in d_counts_in
  g_counts_in : mg "counts_in" = some (.ref f_counts_in)
  b_counts_in : Binds K d_counts_in ["row"] []
  f_is_row_in : Addr
  d_is_row_in : FuncData
  F_is_row_in : Fun K "is_row_in" "is_row_in" s_is_row_in f_is_row_in d_is_row_in
  g_is_row_in : mg "is_row_in" = some (.ref f_is_row_in)
  b_is_row_in : Binds K d_is_row_in ["value"] []
  f_is_mail : Addr
  d_is_mail : FuncData
  F_is_mail : Fun K "is_mail" "is_mail" s_is_mail f_is_mail d_is_mail
  g_is_mail : mg "is_mail" = some (.ref f_is_mail)
  b_is_mail : Binds K d_is_mail ["value"] []
  f_require_read : Addr
  d_require_read : FuncData
  F_require_read : Fun K "require_read" "require_read" s_require_read f_require_read d_require_read
  g_require_read : mg "require_read" = some (.ref f_require_read)
  b_require_read : Binds K d_require_read ["machine", "letter"] []
  f__law_pick : Addr
  d__law_pick : FuncData
  F__law_pick : Fun K "_law_pick" "_law_pick" s__law_pick f__law_pick d__law_pick
  g__law_pick : mg "_law_pick" = some (.ref f__law_pick)
  b__law_pick : Binds K d__law_pick ["dice", "items"] []
  f__law_added : Addr
  d__law_added : FuncData
  F__law_added : Fun K "_law_added" "_law_added" s__law_added f__law_added d__law_added
  g__law_added : mg "_law_added" = some (.ref f__law_added)
  b__law_added : Binds K d__law_added ["one", "other"] []
  f__law_walked : Addr
  d__law_walked : FuncData
  F__law_walked : Fun K "_law_walked" "_law_walked" s__law_walked f__law_walked d__law_walked
  g__law_walked : mg "_law_walked" = some (.ref f__law_walked)
  b__law_walked : Binds K d__law_walked ["machine", "place", "row"] []
  f__law_both : Addr
  d__law_both : FuncData
  F__law_both : Fun K "_law_both" "_law_both" s__law_both f__law_both d__law_both
  g__law_both : mg "_law_both" = some (.ref f__law_both)
  b__law_both : Binds K d__law_both ["one", "other"] []
  f_require_number : Addr
  d_require_number : FuncData
  F_require_number : Fun K "require_number" "require_number" s_require_number f_require_number d_require_number
  g_require_number : mg "require_number" = some (.ref f_require_number)
  b_require_number : Binds K d_require_number ["value", "least", "most"] []
  f_require_row : Addr
  d_require_row : FuncData
  F_require_row : Fun K "require_row" "require_row" s_require_row f_require_row d_require_row
  g_require_row : mg "require_row" = some (.ref f_require_row)
  b_require_row : Binds K d_require_row ["value"] []
  f_is_step_key : Addr
  d_is_step_key : FuncData
  F_is_step_key : Fun K "is_step_key" "is_step_key" s_is_step_key f_is_step_key d_is_step_key
  g_is_step_key : mg "is_step_key" = some (.ref f_is_step_key)
  b_is_step_key : Binds K d_is_step_key ["key", "places"] []
  f_walked : Addr
  d_walked : FuncData
  F_walked : Fun K "walked" "walked" s_walked f_walked d_walked
  g_walked : mg "walked" = some (.ref f_walked)
  b_walked : Binds K d_walked ["machine", "place", "row"] []
  f__law_row_drawn : Addr
  d__law_row_drawn : FuncData
  F__law_row_drawn : Fun K "_law_row_drawn" "_law_row_drawn" s__law_row_drawn f__law_row_drawn d__law_row_drawn
  g__law_row_drawn : mg "_law_row_drawn" = some (.ref f__law_row_drawn)
  b__law_row_drawn : Binds K d__law_row_drawn ["dice", "most", "letters"] []
  f_require_read_row : Addr
  d_require_read_row : FuncData
  F_require_read_row : Fun K "require_read_row" "require_read_row" s_require_read_row f_require_read_row d_require_read_row
  g_require_read_row : mg "require_read_row" = some (.ref f_require_read_row)
  b_require_read_row : Binds K d_require_read_row ["machine", "row"] []
  f_is_machine : Addr
  d_is_machine : FuncData
  F_is_machine : Fun K "is_machine" "is_machine" s_is_machine f_is_machine d_is_machine
  g_is_machine : mg "is_machine" = some (.ref f_is_machine)
  b_is_machine : Binds K d_is_machine ["value"] []
  f__law_unit_machine : Addr
  d__law_unit_machine : FuncData
  F__law_unit_machine : Fun K "_law_unit_machine" "_law_unit_machine" s__law_unit_machine f__law_unit_machine d__law_unit_machine
  g__law_unit_machine : mg "_law_unit_machine" = some (.ref f__law_unit_machine)
  b__law_unit_machine : Binds K d__law_unit_machine ["dice", "reads", "sends", "most"] []
  f_require_machine : Addr
  d_require_machine : FuncData
  F_require_machine : Fun K "require_machine" "require_machine" s_require_machine f_require_machine d_require_machine
  g_require_machine : mg "require_machine" = some (.ref f_require_machine)
  b_require_machine : Binds K d_require_machine ["value"] []
  f__law_even_machine : Addr
  d__law_even_machine : FuncData
  F__law_even_machine : Fun K "_law_even_machine" "_law_even_machine" s__law_even_machine f__law_even_machine d__law_even_machine
  g__law_even_machine : mg "_law_even_machine" = some (.ref f__law_even_machine)
  b__law_even_machine : Binds K d__law_even_machine ["dice", "reads", "sends", "most"] []
  f_reads_of : Addr
  d_reads_of : FuncData
  F_reads_of : Fun K "reads_of" "reads_of" s_reads_of f_reads_of d_reads_of
  g_reads_of : mg "reads_of" = some (.ref f_reads_of)
  b_reads_of : Binds K d_reads_of ["machine"] []
  f_sends_of : Addr
  d_sends_of : FuncData
  F_sends_of : Fun K "sends_of" "sends_of" s_sends_of f_sends_of d_sends_of
  g_sends_of : mg "sends_of" = some (.ref f_sends_of)
  b_sends_of : Binds K d_sends_of ["machine"] []
  f_step_of : Addr
  d_step_of : FuncData
  F_step_of : Fun K "step_of" "step_of" s_step_of f_step_of d_step_of
  g_step_of : mg "step_of" = some (.ref f_step_of)
  b_step_of : Binds K d_step_of ["machine", "place", "letter"] []
  f_walk : Addr
  d_walk : FuncData
  F_walk : Fun K "walk" "walk" s_walk f_walk d_walk
  g_walk : mg "walk" = some (.ref f_walk)
  b_walk : Binds K d_walk ["machine", "place", "row"] []
  f_without : Addr
  d_without : FuncData
  F_without : Fun K "without" "without" s_without f_without d_without
  g_without : mg "without" = some (.ref f_without)
  b_without : Binds K d_without ["machine", "letters"] []
  f__law_any_machine : Addr
  d__law_any_machine : FuncData
  F__law_any_machine : Fun K "_law_any_machine" "_law_any_machine" s__law_any_machine f__law_any_machine d__law_any_machine
  g__law_any_machine : mg "_law_any_machine" = some (.ref f__law_any_machine)
  b__law_any_machine : Binds K d__law_any_machine ["dice", "reads", "sends", "most"] []
  f__law_machine_right : Addr
  d__law_machine_right : FuncData
  F__law_machine_right : Fun K "_law_machine_right" "_law_machine_right" s__law_machine_right f__law_machine_right d__law_machine_right
  g__law_machine_right : mg "_law_machine_right" = some (.ref f__law_machine_right)
  b__law_machine_right : Binds K d__law_machine_right ["dice", "machine"] []
  f_law : Addr
  d_law : FuncData
  F_law : Fun K "law" "law" s_law f_law d_law
  g_law : mg "law" = some (.ref f_law)
  b_law : Binds K d_law ["script"] []
  sysm : ∃ o, base.get? sysModules = some o
  z_abs : mg "abs" = none
  z_all : mg "all" = none
  z_bool : mg "bool" = none
  z_dict : mg "dict" = none
  z_int : mg "int" = none
  z_isinstance : mg "isinstance" = none
  z_len : mg "len" = none
  z_list : mg "list" = none
  z_max : mg "max" = none
  z_min : mg "min" = none
  z_range : mg "range" = none
  z_repr : mg "repr" = none
  z_set : mg "set" = none
  z_sorted : mg "sorted" = none
  z_str : mg "str" = none
  z_tuple : mg "tuple" = none
  g_FAR : ∃ t, mg "FAR" = some (.int 1000000000000000000000000000000000000000000000000000000000000 t)
  g_LETTERS : ∃ t, mg "LETTERS" = some (.str "abcdefghijkl" t)
  g_MAX_MAIL : ∃ t, mg "MAX_MAIL" = some (.int 200 t)
  g_MAX_PLACES : ∃ t, mg "MAX_PLACES" = some (.int 2000 t)
  g_MAX_READ : ∃ t, mg "MAX_READ" = some (.int 8 t)
  g_MAX_ROW : ∃ t, mg "MAX_ROW" = some (.int 100000 t)
  g_PAIR_SIZE : ∃ t, mg "PAIR_SIZE" = some (.int 2 t)
def b_is_whole : FS := (retF (andV (un1 (varD 0) (isiD "int")) (notV (un1 (varD 0) (isiD "bool")))))
def m_is_whole : FP := runP 1 b_is_whole
def b_is_pair : FS := (retF (andV (un1 (varD 0) (isiD "tuple")) (bin2 (callF (consA (varD 0) nilA) lenS) (conD (.int 2)) (asB eqX false))))
def m_is_pair : FP := runP 1 b_is_pair
def b_is_letter : FS := (retF (andV (un1 (varD 0) (isiD "str")) (andV (bin2 (callF (consA (varD 0) nilA) lenS) (conD (.int 1)) (asB eqX false)) (bin2 (varD 0) (conD (.str "abcdefghijkl")) (asB inD false)))))
def m_is_letter : FP := runP 1 b_is_letter
def b_is_letters : FS := (retF (andV (un1 (varD 0) (isiD "str")) (callF (consA (lcF [1] (anyI (fzD [] (varD 0))) (nameG 1) yesT (bin2 (varD 1) (conD (.str "abcdefghijkl")) (asB inD false))) nilA) allF)))
def m_is_letters : FP := runP 2 b_is_letters
def b_told : FS := (retF (fzD [] (dcF [1] (anyI (fzD [] (callF (consA (varD 0) nilA) sortF))) (nameG 1) (tstF (bin2 (bin2 (varD 0) (varD 1) ixD) (conD (.int 0)) (asB eqX true))) (fzD [] (varD 1)) (bin2 (varD 0) (varD 1) ixD))))
def m_told : FP := runP 2 b_told
def b_reads_in : FS := (retF (meF "str" (conD (.str "")) (consA (callF (consA (scF [1, 2] (anyI (bin2 (varD 0) (conD (.int 1)) ixD)) (tupG 2 (consG (nameG 1) (consG (nameG 2) nilG))) yesT (fzD [] (varD 2))) nilA) sortF) nilA) joinM))
def m_reads_in : FP := runP 3 b_reads_in
def b_sends_in : FS := (seqF (setF [] 1 (meF "str" (conD (.str "")) (consA (lcF [2, 3] (valsD (bin2 (varD 0) (conD (.int 1)) ixD)) (tupG 2 (consG (nameG 2) (consG (nameG 3) nilG))) yesT (fzD [] (varD 3))) nilA) joinM)) (retF (meF "str" (conD (.str "")) (consA (callF (consA (callF (consA (varD 1) nilA) setS) nilA) sortF) nilA) joinM)))
def m_sends_in : FP := runP 4 b_sends_in
def b__law_dice : FS := (seqF (setF [] 2 (fzD [] (ifF (tstF (bin2 (varD 1) (callF (consA (varD 0) nilA) lenS) ltD)) (callF (consA (bin2 (varD 0) (varD 1) ixD) nilA) intF) (fzD [] (bin2 (bin2 (conD (.int 89)) (varD 1) mulD) (conD (.int 31)) addD))))) (seqF (setF [] 3 (bin2 (callF (consA (conD (.int 0)) (consA (bin2 (callF (consA (varD 2) nilA) absF) (bin2 (conD (.int 10)) (conD (.int 16)) powD) subD) nilA)) maxF) (bin2 (bin2 (conD (.int 10)) (conD (.int 60)) powD) (bin2 (conD (.int 10)) (conD (.int 60)) powD) mulD) modD)) (retF (lstF (consA (fzD [] (varD 3)) (consA (fzD [] (bin2 (bin2 (bin2 (bin2 (bin2 (callF (consA (varD 2) nilA) absF) (conD (.int 1152921504606846883)) modD) (conD (.int 43)) mulD) (bin2 (conD (.int 911)) (varD 1) mulD) addD) (bin2 (conD (.int 37)) (callF (consA (bin2 (varD 2) (conD (.int 0)) ltD) nilA) intF) mulD) addD) (conD (.int 17)) addD)) (consA (conD (.int 0)) nilA)))))))
def m__law_dice : FP := runP 4 b__law_dice
def b__law_roll : FS := (seqF (ifS (tstF (bin2 (bin2 (varD 0) (conD (.int 0)) ixD) (conD (.int 0)) gtD)) (seqF (setF [0] 2 (bin2 (callF (consA (bin2 (varD 0) (conD (.int 0)) ixD) nilA) intF) (varD 1) modD)) (seqF (itemF 0 (bin2 (bin2 (varD 0) (conD (.int 0)) ixD) (varD 1) divD) (conD (.int 0)) setO) (retF (fzD [0] (varD 2))))) nextF) (seqF (itemF 0 (fzD [0] (bin2 (bin2 (varD 0) (conD (.int 2)) ixD) (conD (.int 1)) addD)) (conD (.int 2)) setO) (seqF (setF [0] 3 (bin2 (callF (consA (bin2 (bin2 (varD 0) (conD (.int 1)) ixD) (bin2 (conD (.int 49979687)) (bin2 (varD 0) (conD (.int 2)) ixD) mulD) addD) nilA) intF) (conD (.int 2305843009213693907)) modD)) (seqF (setF [0] 4 (bin2 (bin2 (bin2 (callF (consA (bin2 (bin2 (varD 3) (varD 3) mulD) (bin2 (conD (.int 101)) (bin2 (varD 0) (conD (.int 2)) ixD) mulD) addD) nilA) intF) (conD (.int 2305843009213693921)) modD) (conD (.int 7368787)) mulD) (varD 3) addD)) (retF (bin2 (callF (consA (bin2 (varD 4) (conD (.int 65536)) divD) nilA) intF) (varD 1) modD))))))
def m__law_roll : FR := runR 5 b__law_roll
def b__law_counts : FS := (retF (fzD [] (callF (consA (lcF [1] (anyI (fzD [] (callF (consA (callF (consA (varD 0) nilA) setS) nilA) sortF))) (nameG 1) yesT (tupF (consA (fzD [] (varD 1)) (consA (meF "str" (varD 0) (consA (varD 1) nilA) countM) nilA)))) nilA) (dictF false))))
def m__law_counts : FP := runP 2 b__law_counts
def b__law_told : FS := (retF (fzD [] (callF (consA (lcF [1] (anyI (fzD [] (callF (consA (varD 0) nilA) sortF))) (nameG 1) (tstF (bin2 (bin2 (varD 0) (varD 1) ixD) (conD (.int 0)) (asB eqX true))) (tupF (consA (fzD [] (varD 1)) (consA (bin2 (varD 0) (varD 1) ixD) nilA)))) nilA) (dictF false))))
def m__law_told : FP := runP 2 b__law_told
def b__law_reads : FS := (retF (meF "str" (conD (.str "")) (consA (callF (consA (callF (consA (lcF [1] (anyI (bin2 (varD 0) (conD (.int 1)) ixD)) (nameG 1) yesT (bin2 (varD 1) (conD (.int 1)) ixD)) nilA) setS) nilA) sortF) nilA) joinM))
def m__law_reads : FP := runP 2 b__law_reads
def b__law_sends : FS := (retF (meF "str" (conD (.str "")) (consA (callF (consA (callF (consA (meF "str" (conD (.str "")) (consA (lcF [1] (anyI (bin2 (varD 0) (conD (.int 1)) ixD)) (nameG 1) yesT (bin2 (bin2 (bin2 (varD 0) (conD (.int 1)) ixD) (varD 1) ixD) (conD (.int 1)) ixD)) nilA) joinM) nilA) setS) nilA) sortF) nilA) joinM))
def m__law_sends : FP := runP 2 b__law_sends
def b_is_short : FS := (retF (andV (callP (gdP 1 m_is_whole) (consA (fzD [] (varD 0)) nilA)) (chain3 (un1 (conD (.int 1000000000000000000000000000000000000000000000000000000000000)) negD) (varD 0) (conD (.int 1000000000000000000000000000000000000000000000000000000000000)) ltD ltD)))
def m_is_short : FP := runP 1 b_is_short
def b_is_within : FS := (retF (andV (callP (gdP 1 m_is_whole) (consA (fzD [] (varD 0)) nilA)) (chain3 (varD 1) (varD 0) (varD 2) leD leD)))
def m_is_within : FP := runP 3 b_is_within
def b_counts_in : FS := (retF (callP (gdP 1 m_told) (consA (fzD [] (dcF [1] (anyI (fzD [] (callF (consA (callF (consA (varD 0) nilA) setS) nilA) sortF))) (nameG 1) yesT (fzD [] (varD 1)) (meF "str" (varD 0) (consA (varD 1) nilA) countM))) nilA)))
def m_counts_in : FP := runP 2 b_counts_in
def b_is_row_in : FS := (retF (andV (callP (gdP 1 m_is_letters) (consA (fzD [] (varD 0)) nilA)) (bin2 (callF (consA (varD 0) nilA) lenS) (conD (.int 100000)) leD)))
def m_is_row_in : FP := runP 1 b_is_row_in
def b_is_mail : FS := (retF (andV (callP (gdP 1 m_is_letters) (consA (fzD [] (varD 0)) nilA)) (andV (bin2 (callF (consA (varD 0) nilA) lenS) (conD (.int 200)) leD) (bin2 (callF (consA (varD 0) nilA) listF) (callF (consA (varD 0) nilA) sortF) (asB eqX false)))))
def m_is_mail : FP := runP 1 b_is_mail
def b_require_read : FS := (ifS (orT (notT (tstF (callP (gdP 1 m_is_letter) (consA (fzD [] (varD 1)) nilA)))) (tstF (bin2 (varD 1) (callP (gdP 1 m_reads_in) (consA (fzD [] (varD 0)) nilA)) (asB inD true)))) neverF nextF)
def m_require_read : FP := runP 2 b_require_read
def b__law_pick : FS := (retF (bin2 (varD 1) (callR (gdR 2 m__law_roll) (consA (varD 0) (consA (callF (consA (varD 1) nilA) lenS) nilA))) ixD))
def m__law_pick : FR := runR 2 b__law_pick
def b__law_added : FS := (retF (callP (gdP 1 m__law_told) (consA (fzD [] (callF (consA (lcF [2] (anyI (fzD [] (bin2 (callF (consA (varD 0) nilA) listF) (callF (consA (varD 1) nilA) listF) addD))) (nameG 2) yesT (tupF (consA (fzD [] (varD 2)) (consA (fzD [] (bin2 (meF "dict" (varD 0) (consA (fzD [] (varD 2)) (consA (conD (.int 0)) nilA)) getM') (meF "dict" (varD 1) (consA (fzD [] (varD 2)) (consA (conD (.int 0)) nilA)) getM') addD)) nilA)))) nilA) (dictF false))) nilA)))
def m__law_added : FP := runP 3 b__law_added
def b__law_walked : FS := (seqF (parF [] 3 4 (fzD [] (varD 1)) (conD (.str ""))) (seqF (forF [] [5] (anyI (fzD [] (varD 2))) (nameG 5) (seqF (asgF [] [3, 6] (bin2 (bin2 (varD 0) (conD (.int 1)) ixD) (tupF (consA (fzD [] (varD 3)) (consA (fzD [] (varD 5)) nilA))) ixD) (tupG 2 (consG (nameG 3) (consG (nameG 6) nilG)))) (setF [] 4 (bin2 (varD 4) (varD 6) addD)))) (retF (tupF (consA (fzD [] (varD 3)) (consA (callP (gdP 1 m__law_counts) (consA (fzD [] (varD 4)) nilA)) nilA))))))
def m__law_walked : FP := runP 7 b__law_walked
def b__law_both : FS := (seqF (par3F [] 2 3 4 (lstF (consA (tupF (consA (conD (.int 0)) (consA (conD (.int 0)) nilA))) nilA)) (dnewF true) (callP (gdP 1 m__law_reads) (consA (fzD [] (varD 0)) nilA))) (seqF (forF [] [5] (rng1I (consA (bin2 (bin2 (varD 0) (conD (.int 0)) ixD) (bin2 (varD 1) (conD (.int 0)) ixD) mulD) nilA)) (nameG 5) (forF [] [6] (anyI (fzD [] (ifF (tstF (bin2 (varD 5) (callF (consA (varD 2) nilA) lenS) ltD)) (fzD [] (varD 4)) (conD (.str ""))))) (nameG 6) (seqF (asgF [] [7, 8] (bin2 (varD 2) (varD 5) ixD) (tupG 2 (consG (nameG 7) (consG (nameG 8) nilG)))) (seqF (parF [] 9 10 (bin2 (bin2 (varD 0) (conD (.int 1)) ixD) (tupF (consA (fzD [] (varD 7)) (consA (fzD [] (varD 6)) nilA))) ixD) (bin2 (bin2 (varD 1) (conD (.int 1)) ixD) (tupF (consA (fzD [] (varD 8)) (consA (fzD [] (varD 6)) nilA))) ixD)) (seqF (ifS (tstF (bin2 (tupF (consA (bin2 (varD 9) (conD (.int 0)) ixD) (consA (bin2 (varD 10) (conD (.int 0)) ixD) nilA))) (varD 2) (asB inD true))) (exprF (mutL 2 (consA (tupF (consA (bin2 (varD 9) (conD (.int 0)) ixD) (consA (bin2 (varD 10) (conD (.int 0)) ixD) nilA))) nilA) appO)) nextF) (itemF 3 (tupF (consA (meF "list" (varD 2) (consA (tupF (consA (bin2 (varD 9) (conD (.int 0)) ixD) (consA (bin2 (varD 10) (conD (.int 0)) ixD) nilA))) nilA) indexM) (consA (meF "str" (conD (.str "")) (consA (callF (consA (bin2 (bin2 (varD 9) (conD (.int 1)) ixD) (bin2 (varD 10) (conD (.int 1)) ixD) addD) nilA) sortF) nilA) joinM) nilA))) (tupF (consA (fzD [] (varD 5)) (consA (fzD [] (varD 6)) nilA))) setO)))))) (ret2F [] (callF (consA (varD 2) nilA) lenS) 3)))
def m__law_both : FP2 := runP2 11 b__law_both
def b_require_number : FS := (ifS (orT (notT (tstF (callP (gdP 1 m_is_short) (consA (fzD [] (varD 0)) nilA)))) (orT (andT (tstF (bin2 (varD 1) (conD .non) isnD)) (tstF (bin2 (varD 0) (varD 1) ltD))) (andT (tstF (bin2 (varD 2) (conD .non) isnD)) (tstF (bin2 (varD 0) (varD 2) gtD))))) neverF nextF)
def m_require_number : FP := runP 3 b_require_number
def b_require_row : FS := (ifS (notT (tstF (callP (gdP 1 m_is_row_in) (consA (fzD [] (varD 0)) nilA)))) neverF nextF)
def m_require_row : FP := runP 1 b_require_row
def b_is_step_key : FS := (retF (andV (callP (gdP 1 m_is_pair) (consA (fzD [] (varD 0)) nilA)) (andV (callP (gdP 3 m_is_within) (consA (bin2 (varD 0) (conD (.int 0)) ixD) (consA (conD (.int 0)) (consA (bin2 (varD 1) (conD (.int 1)) subD) nilA)))) (callP (gdP 1 m_is_letter) (consA (bin2 (varD 0) (conD (.int 1)) ixD) nilA)))))
def m_is_step_key : FP := runP 2 b_is_step_key
def b_walked : FS := (seqF (parF [] 3 4 (fzD [] (varD 1)) (lstF nilA)) (seqF (forF [] [5] (anyI (fzD [] (varD 2))) (nameG 5) (seqF (asgF [] [3, 6] (bin2 (bin2 (varD 0) (conD (.int 1)) ixD) (tupF (consA (fzD [] (varD 3)) (consA (fzD [] (varD 5)) nilA))) ixD) (tupG 2 (consG (nameG 3) (consG (nameG 6) nilG)))) (exprF (mutL 4 (consA (fzD [] (varD 6)) nilA) appO)))) (retF (tupF (consA (fzD [] (varD 3)) (consA (callP (gdP 1 m_counts_in) (consA (meF "str" (conD (.str "")) (consA (varD 4) nilA) joinM) nilA)) nilA))))))
def m_walked : FP := runP 7 b_walked
def b__law_row_drawn : FS := (retF (meF "str" (conD (.str "")) (consA (lcF [3] (rng1I (consA (ifF (tstF (bin2 (varD 2) (conD (.str "")) (asB eqX true))) (callR (gdR 2 m__law_roll) (consA (varD 0) (consA (fzD [0] (bin2 (varD 1) (conD (.int 1)) addD)) nilA))) (conD (.int 0))) nilA)) (nameG 3) yesT (callR (gdR 2 m__law_pick) (consA (varD 0) (consA (fzD [0] (varD 2)) nilA)))) nilA) joinM))
def m__law_row_drawn : FR := runR 4 b__law_row_drawn
def b_require_read_row : FS := (seqF (exprF (callP (gdP 1 m_require_row) (consA (fzD [] (varD 1)) nilA))) (seqF (setF [] 2 (callP (gdP 1 m_reads_in) (consA (fzD [] (varD 0)) nilA))) (forF [] [3] (anyI (fzD [] (varD 1))) (nameG 3) (ifS (tstF (bin2 (varD 3) (varD 2) (asB inD true))) neverF nextF))))
def m_require_read_row : FP := runP 4 b_require_read_row
def b_is_machine : FS := (seqF (ifS (orT (notT (tstF (callP (gdP 1 m_is_pair) (consA (fzD [] (varD 0)) nilA)))) (orT (notT (tstF (callP (gdP 3 m_is_within) (consA (bin2 (varD 0) (conD (.int 0)) ixD) (consA (conD (.int 1)) (consA (conD (.int 2000)) nilA)))))) (notT (tstF (un1 (bin2 (varD 0) (conD (.int 1)) ixD) (isiD "dict")))))) (retF (conD (.bl false))) nextF) (seqF (asgF [] [1, 2] (fzD [] (varD 0)) (tupG 2 (consG (nameG 1) (consG (nameG 2) nilG)))) (seqF (ifS (notT (tstF (callF (consA (lcF [8] (anyI (fzD [] (varD 2))) (nameG 8) yesT (callP (gdP 2 m_is_step_key) (consA (fzD [] (varD 8)) (consA (fzD [] (varD 1)) nilA)))) nilA) allF))) (retF (conD (.bl false))) nextF) (seqF (setF [] 3 (scF [5, 6] (anyI (fzD [] (varD 2))) (tupG 2 (consG (nameG 5) (consG (nameG 6) nilG))) yesT (fzD [] (varD 6)))) (seqF (ifS (orT (tstF (bin2 (callF (consA (varD 3) nilA) lenS) (conD (.int 8)) gtD)) (tstF (bin2 (callF (consA (varD 2) nilA) lenS) (bin2 (varD 1) (callF (consA (varD 3) nilA) lenS) mulD) (asB eqX true)))) (retF (conD (.bl false))) nextF) (seqF (setF [] 4 (listvF (varD 2))) (retF (callF (consA (lcF [7] (anyI (fzD [] (varD 4))) (nameG 7) yesT (andV (callP (gdP 1 m_is_pair) (consA (fzD [] (varD 7)) nilA)) (andV (callP (gdP 3 m_is_within) (consA (bin2 (varD 7) (conD (.int 0)) ixD) (consA (conD (.int 0)) (consA (bin2 (varD 1) (conD (.int 1)) subD) nilA)))) (callP (gdP 1 m_is_mail) (consA (bin2 (varD 7) (conD (.int 1)) ixD) nilA))))) nilA) allF))))))))
def m_is_machine : FP := runP 9 b_is_machine
def b__law_unit_machine : FS := (seqF (par3F [0] 4 5 6 (callR (gdR 2 m__law_roll) (consA (varD 0) (consA (conD (.int 3)) nilA))) (bin2 (conD (.int 1)) (callR (gdR 2 m__law_roll) (consA (varD 0) (consA (conD (.int 3)) nilA))) addD) (dnewF true)) (seqF (setF [0] 7 (lcS [13] (rng1I (consA (bin2 (varD 4) (varD 5) addD) nilA)) (nameG 13) yesT (meF "str" (conD (.str "")) (consA (callF (consA (callR (gdR 3 m__law_row_drawn) (consA (varD 0) (consA (fzD [0] (varD 3)) (consA (fzD [0] (varD 2)) nilA)))) nilA) sortF) nilA) joinM))) (seqF (forF [0] [8] (anyI (fzD [0] (varD 1))) (nameG 8) (seqF (setF [0] 9 (callR (gdR 2 m__law_pick) (consA (varD 0) (consA (fzD [0] (lstF (consA (conD (.int 1)) (consA (conD (.int 1)) (consA (conD (.int 1)) (consA (conD (.int 2)) (consA (conD (.int 0)) (consA (conD (.int 3)) nilA)))))))) nilA)))) (forF [0] [10] (rng1I (consA (bin2 (varD 4) (varD 5) addD) nilA)) (nameG 10) (seqF (parF [0] 11 12 (fzD [0] (varD 10)) (conD (.str ""))) (seqF (forF [0] [13] (rng1I (consA (varD 9) nilA)) (nameG 13) (seqF (setF [0] 12 (bin2 (varD 12) (bin2 (varD 7) (varD 11) ixD) addD)) (setF [0] 11 (fzD [0] (ifF (tstF (bin2 (bin2 (varD 11) (conD (.int 1)) addD) (bin2 (varD 4) (varD 5) addD) ltD)) (fzD [0] (bin2 (varD 11) (conD (.int 1)) addD)) (fzD [0] (varD 4))))))) (itemF 6 (tupF (consA (fzD [0] (varD 11)) (consA (meF "str" (conD (.str "")) (consA (callF (consA (varD 12) nilA) sortF) nilA) joinM) nilA))) (tupF (consA (fzD [0] (varD 10)) (consA (fzD [0] (varD 8)) nilA))) setO)))))) (ret2F [0] (fzD [0] (bin2 (varD 4) (varD 5) addD)) 6))))
def m__law_unit_machine : FR2 := runR2 14 b__law_unit_machine
def b_require_machine : FS := (ifS (notT (tstF (callP (gdP 1 m_is_machine) (consA (fzD [] (varD 0)) nilA)))) neverF nextF)
def m_require_machine : FP := runP 1 b_require_machine
def m__law_even_machine : FR2 := runEven 5 4 (gd2R 4 m__law_unit_machine) (consA (varD 0) (consA (fzD [0] (varD 1)) (consA (fzD [0] (varD 2)) (consA (fzD [0] (varD 3)) nilA)))) (andT (tstF (bin2 (varD 1) (conD (.str "")) (asB eqX true))) (tstF (bin2 (callR (gdR 2 m__law_roll) (consA (varD 0) (consA (conD (.int 3)) nilA))) (conD (.int 0)) (asB eqX false)))) m__law_both (callR2z (gd2R 4 m__law_unit_machine) (consA (varD 0) (consA (fzD [0] (varD 1)) (consA (fzD [0] (varD 2)) (consA (callF (consA (varD 3) (consA (conD (.int 1)) nilA)) minF) nilA)))))
def b_reads_of : FS := (seqF (exprF (callP (gdP 1 m_require_machine) (consA (fzD [] (varD 0)) nilA))) (retF (callP (gdP 1 m_reads_in) (consA (fzD [] (varD 0)) nilA))))
def m_reads_of : FP := runP 1 b_reads_of
def b_sends_of : FS := (seqF (exprF (callP (gdP 1 m_require_machine) (consA (fzD [] (varD 0)) nilA))) (retF (callP (gdP 1 m_sends_in) (consA (fzD [] (varD 0)) nilA))))
def m_sends_of : FP := runP 1 b_sends_of
def b_step_of : FS := (seqF (exprF (callP (gdP 1 m_require_machine) (consA (fzD [] (varD 0)) nilA))) (seqF (exprF (callP (gdP 3 m_require_number) (consA (fzD [] (varD 1)) (consA (conD (.int 0)) (consA (bin2 (bin2 (varD 0) (conD (.int 0)) ixD) (conD (.int 1)) subD) nilA))))) (seqF (exprF (callP (gdP 2 m_require_read) (consA (fzD [] (varD 0)) (consA (fzD [] (varD 2)) nilA)))) (retF (bin2 (bin2 (varD 0) (conD (.int 1)) ixD) (tupF (consA (fzD [] (varD 1)) (consA (fzD [] (varD 2)) nilA))) ixD)))))
def m_step_of : FP := runP 3 b_step_of
def b_walk : FS := (seqF (exprF (callP (gdP 1 m_require_machine) (consA (fzD [] (varD 0)) nilA))) (seqF (exprF (callP (gdP 3 m_require_number) (consA (fzD [] (varD 1)) (consA (conD (.int 0)) (consA (bin2 (bin2 (varD 0) (conD (.int 0)) ixD) (conD (.int 1)) subD) nilA))))) (seqF (exprF (callP (gdP 2 m_require_read_row) (consA (fzD [] (varD 0)) (consA (fzD [] (varD 2)) nilA)))) (retF (callP (gdP 3 m_walked) (consA (fzD [] (varD 0)) (consA (fzD [] (varD 1)) (consA (fzD [] (varD 2)) nilA))))))))
def m_walk : FP := runP 3 b_walk
def b_without : FS := (seqF (exprF (callP (gdP 1 m_require_machine) (consA (fzD [] (varD 0)) nilA))) (seqF (exprF (callP (gdP 1 m_require_row) (consA (fzD [] (varD 1)) nilA))) (seqF (setF [] 2 (dnewF true)) (seqF (forF [] [3] (anyI (fzD [] (callF (consA (bin2 (varD 0) (conD (.int 1)) ixD) nilA) sortF))) (nameG 3) (seqF (asgF [] [4, 5] (bin2 (bin2 (varD 0) (conD (.int 1)) ixD) (varD 3) ixD) (tupG 2 (consG (nameG 4) (consG (nameG 5) nilG)))) (itemF 2 (tupF (consA (fzD [] (varD 4)) (consA (meF "str" (conD (.str "")) (consA (lcF [6] (anyI (fzD [] (varD 5))) (nameG 6) (tstF (bin2 (varD 6) (varD 1) (asB inD true))) (fzD [] (varD 6))) nilA) joinM) nilA))) (fzD [] (varD 3)) setO))) (retF (tupF (consA (bin2 (varD 0) (conD (.int 0)) ixD) (consA (fzD [] (varD 2)) nilA))))))))
def m_without : FP := runP 7 b_without
def b__law_any_machine : FS := (seqF (ifS (tstF (bin2 (callR (gdR 2 m__law_roll) (consA (varD 0) (consA (conD (.int 3)) nilA))) (conD (.int 0)) (asB eqX false))) (seqF (parF [0] 4 5 (bin2 (conD (.int 1)) (callR (gdR 2 m__law_roll) (consA (varD 0) (consA (conD (.int 4)) nilA))) addD) (dnewF true)) (seqF (forF [0] [6] (rng1I (consA (varD 4) nilA)) (nameG 6) (forF [0] [7] (anyI (fzD [0] (varD 1))) (nameG 7) (itemF 5 (tupF (consA (callR (gdR 2 m__law_roll) (consA (varD 0) (consA (fzD [0] (varD 4)) nilA))) (consA (meF "str" (conD (.str "")) (consA (callF (consA (callR (gdR 3 m__law_row_drawn) (consA (varD 0) (consA (fzD [0] (varD 3)) (consA (fzD [0] (varD 2)) nilA)))) nilA) sortF) nilA) joinM) nilA))) (tupF (consA (fzD [0] (varD 6)) (consA (fzD [0] (varD 7)) nilA))) setO))) (retF (tupF (consA (fzD [0] (varD 4)) (consA (fzD [0] (varD 5)) nilA)))))) nextF) (seqF (asgR2F [0] 4 5 (gd2R 4 m__law_even_machine) (consA (varD 0) (consA (fzD [0] (varD 1)) (consA (fzD [0] (varD 2)) (consA (fzD [0] (varD 3)) nilA))))) (seqF (forF [0] [8] (rng1I (consA (ifF (tstF (bin2 (varD 5) (dnewF true) neE)) (callR (gdR 2 m__law_roll) (consA (varD 0) (consA (conD (.int 3)) nilA))) (conD (.int 0))) nilA)) (nameG 8) (seqF (setF [0] 9 (callR (gdR 2 m__law_pick) (consA (varD 0) (consA (fzD [0] (callF (consA (varD 5) nilA) sortF)) nilA)))) (seqF (setF [0] 10 (meF "str" (conD (.str "")) (consA (callF (consA (callR (gdR 3 m__law_row_drawn) (consA (varD 0) (consA (fzD [0] (varD 3)) (consA (fzD [0] (varD 2)) nilA)))) nilA) sortF) nilA) joinM)) (itemF 5 (tupF (consA (callR (gdR 2 m__law_roll) (consA (varD 0) (consA (fzD [0] (varD 4)) nilA))) (consA (callR (gdR 2 m__law_pick) (consA (varD 0) (consA (fzD [0] (lstF (consA (bin2 (bin2 (varD 5) (varD 9) ixD) (conD (.int 1)) ixD) (consA (fzD [0] (varD 10)) nilA)))) nilA))) nilA))) (fzD [0] (varD 9)) setO)))) (retF (tupF (consA (fzD [0] (varD 4)) (consA (fzD [0] (varD 5)) nilA)))))))
def m__law_any_machine : FR := runR 11 b__law_any_machine
def b__law_machine_right : FS := (seqF (parF [0] 2 3 (callP (gdP 1 m__law_reads) (consA (fzD [0] (varD 1)) nilA)) (callF (consA (varD 1) nilA) reprF)) (seqF (ifS (orT (tstF (bin2 (callP (gdP 1 m_is_machine) (consA (fzD [0] (varD 1)) nilA)) (conD (.bl true)) isnD)) (orT (tstF (bin2 (callP (gdP 1 m_reads_of) (consA (fzD [0] (varD 1)) nilA)) (varD 2) (asB eqX true))) (tstF (bin2 (callP (gdP 1 m_sends_of) (consA (fzD [0] (varD 1)) nilA)) (callP (gdP 1 m__law_sends) (consA (fzD [0] (varD 1)) nilA)) (asB eqX true))))) (retF (conD (.bl false))) nextF) (seqF (forF [0] [4] (rng1I (consA (conD (.int 4)) nilA)) (nameG 4) (seqF (parF [0] 5 6 (callR (gdR 2 m__law_roll) (consA (varD 0) (consA (bin2 (varD 1) (conD (.int 0)) ixD) nilA))) (callR (gdR 3 m__law_row_drawn) (consA (varD 0) (consA (conD (.int 12)) (consA (fzD [0] (varD 2)) nilA))))) (seqF (ifS (tstF (bin2 (callF (consA (callP (gdP 3 m_walk) (consA (fzD [0] (varD 1)) (consA (fzD [0] (varD 5)) (consA (fzD [0] (varD 6)) nilA)))) nilA) reprF) (callF (consA (callP (gdP 3 m__law_walked) (consA (fzD [0] (varD 1)) (consA (fzD [0] (varD 5)) (consA (fzD [0] (varD 6)) nilA)))) nilA) reprF) (asB eqX true))) (retF (conD (.bl false))) nextF) (seqF (setF [0] 7 (callR (gdR 2 m__law_roll) (consA (varD 0) (consA (fzD [0] (bin2 (callF (consA (varD 6) nilA) lenS) (conD (.int 1)) addD)) nilA)))) (seqF (setF [0] 8 (callP (gdP 3 m_walk) (consA (fzD [0] (varD 1)) (consA (fzD [0] (varD 5)) (consA (fzD [0] (slcF (varD 6) noneO (someO (varD 7)))) nilA))))) (seqF (setF [0] 9 (callP (gdP 3 m_walk) (consA (fzD [0] (varD 1)) (consA (bin2 (varD 8) (conD (.int 0)) ixD) (consA (fzD [0] (slcF (varD 6) (someO (varD 7)) noneO)) nilA))))) (seqF (ifS (tstF (bin2 (tupF (consA (bin2 (varD 9) (conD (.int 0)) ixD) (consA (callP (gdP 2 m__law_added) (consA (bin2 (varD 8) (conD (.int 1)) ixD) (consA (bin2 (varD 9) (conD (.int 1)) ixD) nilA))) nilA))) (callP (gdP 3 m_walk) (consA (fzD [0] (varD 1)) (consA (fzD [0] (varD 5)) (consA (fzD [0] (varD 6)) nilA)))) (asB eqX true))) (retF (conD (.bl false))) nextF) (ifS (tstF (bin2 (varD 2) (conD (.str "")) (asB eqX true))) (seqF (setF [0] 10 (callR (gdR 2 m__law_pick) (consA (varD 0) (consA (fzD [0] (varD 2)) nilA)))) (ifS (tstF (bin2 (callF (consA (callP (gdP 3 m_step_of) (consA (fzD [0] (varD 1)) (consA (fzD [0] (varD 5)) (consA (fzD [0] (varD 10)) nilA)))) nilA) reprF) (callF (consA (bin2 (bin2 (varD 1) (conD (.int 1)) ixD) (tupF (consA (fzD [0] (varD 5)) (consA (fzD [0] (varD 10)) nilA))) ixD) nilA) reprF) (asB eqX true))) (retF (conD (.bl false))) nextF)) nextF)))))))) (seqF (setF [0] 11 (callR (gdR 3 m__law_row_drawn) (consA (varD 0) (consA (conD (.int 3)) (consA (conD (.str "abcdefghijkl")) nilA))))) (seqF (setF [0] 12 (callP (gdP 2 m_without) (consA (fzD [0] (varD 1)) (consA (fzD [0] (varD 11)) nilA)))) (seqF (setF [0] 13 (dnewF true)) (seqF (forF [0] [14] (anyI (fzD [0] (callF (consA (bin2 (varD 1) (conD (.int 1)) ixD) nilA) sortF))) (nameG 14) (seqF (asgF [0] [15, 16] (bin2 (bin2 (varD 1) (conD (.int 1)) ixD) (varD 14) ixD) (tupG 2 (consG (nameG 15) (consG (nameG 16) nilG)))) (itemF 13 (tupF (consA (fzD [0] (varD 15)) (consA (meF "str" (conD (.str "")) (consA (lcF [17] (anyI (fzD [0] (varD 16))) (nameG 17) (tstF (bin2 (varD 17) (varD 11) (asB inD true))) (fzD [0] (varD 17))) nilA) joinM) nilA))) (fzD [0] (varD 14)) setO))) (retF (andV (bin2 (callF (consA (varD 12) nilA) reprF) (callF (consA (tupF (consA (bin2 (varD 1) (conD (.int 0)) ixD) (consA (fzD [0] (varD 13)) nilA))) nilA) reprF) (asB eqX false)) (bin2 (callF (consA (varD 1) nilA) reprF) (varD 3) (asB eqX false)))))))))))
def m__law_machine_right : FR := runR 18 b__law_machine_right
def b_law : FS := (seqF (forF [] [1] (rng1I (consA (callF (consA (conD (.int 1)) (consA (callF (consA (conD (.int 3)) (consA (callF (consA (varD 0) nilA) lenS) nilA)) minF) nilA)) maxF) nilA)) (nameG 1) (seqF (setF [] 2 (callP (gdP 2 m__law_dice) (consA (fzD [] (varD 0)) (consA (fzD [] (varD 1)) nilA)))) (forF [] [3] (rng1I (consA (conD (.int 3)) nilA)) (nameG 3) (seqF (setF [] 4 (callR (gdR 2 m__law_pick) (consA (varD 2) (consA (fzD [] (lstF (consA (conD (.str "")) (consA (conD (.str "a")) (consA (conD (.str "ab")) (consA (conD (.str "bcd")) (consA (conD (.str "acegikl")) (consA (conD (.str "abcdefgh")) nilA)))))))) nilA)))) (ifS (notT (tstF (callR (gdR 2 m__law_machine_right) (consA (varD 2) (consA (callR (gdR 4 m__law_any_machine) (consA (varD 2) (consA (fzD [] (varD 4)) (consA (conD (.str "abckl")) (consA (conD (.int 3)) nilA))))) nilA))))) (retF (conD (.bl false))) nextF))))) (seqF (setF [] 5 (callF (consA (lcF [9] (rng1I (consA (conD (.int 2000)) nilA)) (nameG 9) yesT (tupF (consA (tupF (consA (fzD [] (varD 9)) (consA (conD (.str "b")) nilA))) (consA (tupF (consA (bin2 (callF (consA (bin2 (varD 9) (conD (.int 1)) addD) nilA) intF) (conD (.int 2000)) modD) (consA (conD (.str "")) nilA))) nilA)))) nilA) (dictF true))) (seqF (itemF 5 (tupF (consA (conD (.int 0)) (consA (fzD [] (bin2 (bin2 (conD (.str "a")) (conD (.int 150)) mulD) (bin2 (conD (.str "l")) (conD (.int 50)) mulD) addD)) nilA))) (tupF (consA (conD (.int 1999)) (consA (conD (.str "b")) nilA))) setO) (seqF (setF [] 6 (tupF (consA (conD (.int 2000)) (consA (fzD [] (varD 5)) nilA)))) (seqF (ifS (orT (tstF (bin2 (callP (gdP 1 m_is_machine) (consA (fzD [] (varD 6)) nilA)) (conD (.bl true)) isnD)) (tstF (bin2 (callP (gdP 3 m_walk) (consA (fzD [] (varD 6)) (consA (conD (.int 3)) (consA (fzD [] (bin2 (conD (.str "b")) (conD (.int 9000)) mulD)) nilA)))) (tupF (consA (conD (.int 1003)) (consA (fzD [] (dspF (consP (conD (.str "a")) (conD (.int 600)) (consP (conD (.str "l")) (conD (.int 200)) nilP)))) nilA))) (asB eqX true)))) (retF (conD (.bl false))) nextF) (seqF (setF [] 7 (lstF (consA (callP (gdP 1 m_reads_of) (consA (fzD [] (varD 6)) nilA)) (consA (callP (gdP 1 m_sends_of) (consA (fzD [] (varD 6)) nilA)) (consA (callP (gdP 1 m_sends_of) (consA (callP (gdP 2 m_without) (consA (fzD [] (varD 6)) (consA (conD (.str "al")) nilA))) nilA)) (consA (callP (gdP 1 m_reads_of) (consA (tupF (consA (conD (.int 7)) (consA (fzD [] (dnewF false)) nilA))) nilA)) (consA (callP (gdP 3 m_walk) (consA (tupF (consA (conD (.int 7)) (consA (fzD [] (dnewF false)) nilA))) (consA (conD (.int 6)) (consA (conD (.str "")) nilA)))) nilA))))))) (seqF (ifS (tstF (bin2 (varD 7) (lstF (consA (conD (.str "b")) (consA (conD (.str "al")) (consA (conD (.str "")) (consA (conD (.str "")) (consA (tupF (consA (conD (.int 6)) (consA (fzD [] (dnewF false)) nilA))) nilA)))))) (asB eqX true))) (retF (conD (.bl false))) nextF) (seqF (setF [] 8 (tupF (consA (conD (.int 2)) (consA (fzD [] (dspTF (consPt (tupF (consA (conD (.int 0)) (consA (conD (.str "a")) nilA))) (tupF (consA (conD (.int 1)) (consA (conD (.str "")) nilA))) (consPt (tupF (consA (conD (.int 1)) (consA (conD (.str "a")) nilA))) (tupF (consA (conD (.int 0)) (consA (conD (.str "b")) nilA))) nilPt)))) nilA)))) (retF (bin2 (lstF (consA (callP (gdP 3 m_walk) (consA (fzD [] (varD 8)) (consA (conD (.int 0)) (consA (conD (.str "aaa")) nilA)))) (consA (callP (gdP 3 m_step_of) (consA (fzD [] (varD 8)) (consA (conD (.int 1)) (consA (conD (.str "a")) nilA)))) (consA (callP (gdP 3 m_walk) (consA (fzD [] (varD 8)) (consA (conD (.int 1)) (consA (conD (.str "a")) nilA)))) nilA)))) (lstF (consA (tupF (consA (conD (.int 1)) (consA (fzD [] (dspF (consP (conD (.str "b")) (conD (.int 1)) nilP))) nilA))) (consA (tupF (consA (conD (.int 0)) (consA (conD (.str "b")) nilA))) (consA (tupF (consA (conD (.int 0)) (consA (fzD [] (dspF (consP (conD (.str "b")) (conD (.int 1)) nilP))) nilA))) nilA)))) (asB eqX false)))))))))))
def m_law : FP := runP 10 b_law
section
variable {P : Program} {w : World} {K : PySem.W.Frag} {mg : Str → Option Value} {base : Heap}
theorem ok_is_whole (T : Txt P w K mg base) : FnG P w K mg base 1 T.f_is_whole T.d_is_whole ["value"] (spP ⟨K, P, w⟩ 1 m_is_whole) :=
  fn_pure T.F_is_whole sc_is_whole fun cdv A outer s H E hg0 hr => by
    have nd := sc_is_whole.nd
    have hu := room_hu hr
    have hu1 := room_hu1 hr
    exact (ds_one (ds_ret (de_and (de_isi (T := "") (de_var 0) (by rfl) T.z_isinstance (by rfl) T.z_int (by decide +kernel)) (de_one (de_not (de_isi (T := "") (de_var 0) (by rfl) T.z_isinstance (by rfl) T.z_bool (by decide +kernel)))))))
theorem ok_is_pair (T : Txt P w K mg base) : FnG P w K mg base 1 T.f_is_pair T.d_is_pair ["value"] (spP ⟨K, P, w⟩ 1 m_is_pair) :=
  fn_pure T.F_is_pair sc_is_pair fun cdv A outer s H E hg0 hr => by
    have nd := sc_is_pair.nd
    have hu := room_hu hr
    have hu1 := room_hu1 hr
    exact (ds_one (ds_ret (de_and (de_isi (T := "") (de_var 0) (by rfl) T.z_isinstance (by rfl) T.z_tuple (by decide +kernel)) (de_one (de_cmp (o_eqx hu) (de_callB c_lenS (by rfl) T.z_len (by decide +kernel) (da_cons (de_var 0) da_nil)) (de_gint T.g_PAIR_SIZE) (nomark _))))))
theorem ok_is_letter (T : Txt P w K mg base) : FnG P w K mg base 1 T.f_is_letter T.d_is_letter ["value"] (spP ⟨K, P, w⟩ 1 m_is_letter) :=
  fn_pure T.F_is_letter sc_is_letter fun cdv A outer s H E hg0 hr => by
    have nd := sc_is_letter.nd
    have hu := room_hu hr
    have hu1 := room_hu1 hr
    exact (ds_one (ds_ret (de_and (de_isi (T := "") (de_var 0) (by rfl) T.z_isinstance (by rfl) T.z_str (by decide +kernel)) (de_and (de_cmp (o_eqx hu) (de_callB c_lenS (by rfl) T.z_len (by decide +kernel) (da_cons (de_var 0) da_nil)) de_int (nomark _)) (de_one (de_cmp (o_in hu) (de_var 0) (de_gstr T.g_LETTERS) (by rfl)))))))
theorem ok_is_letters (T : Txt P w K mg base) : FnG P w K mg base 1 T.f_is_letters T.d_is_letters ["value"] (spP ⟨K, P, w⟩ 1 m_is_letters) :=
  fn_pure T.F_is_letters sc_is_letters fun cdv A outer s H E hg0 hr => by
    have nd := sc_is_letters.nd
    have hu := room_hu hr
    have hu1 := room_hu1 hr
    exact (ds_one (ds_ret (de_and (de_isi (T := "") (de_var 0) (by rfl) T.z_isinstance (by rfl) T.z_str (by decide +kernel)) (de_one (de_callB (c_all rfl) (by rfl) T.z_all (by decide +kernel) (da_cons (de_lc (own := [("letter", 1)]) rfl nd (di_any (de_fz (de_var 0))) (by exact blkOk_by (N := ["value", "letter"]) (sc := defScope s_is_letters) (by decide +kernel)) (fun _ _ _ _ _ => (dg_name 1 nd)) (fun _ _ _ _ _ => dts_nil) (fun _ _ _ _ _ => (de_cmp (o_in hu) (de_var 1) (de_gstr T.g_LETTERS) (by rfl)))) da_nil))))))
theorem ok_told (T : Txt P w K mg base) : FnG P w K mg base 1 T.f_told T.d_told ["numbers"] (spP ⟨K, P, w⟩ 1 m_told) :=
  fn_pure T.F_told sc_told fun cdv A outer s H E hg0 hr => by
    have nd := sc_told.nd
    have hu := room_hu hr
    have hu1 := room_hu1 hr
    exact (ds_one (ds_ret (de_fz (de_dc (own := [("letter", 1)]) rfl nd (di_any (de_fz (de_callB (c_sorted rfl hu) (by rfl) T.z_sorted (by decide +kernel) (da_cons (de_var 0) da_nil)))) (by exact blkOk_by (N := ["numbers", "letter"]) (sc := defScope s_told) (by decide +kernel)) (fun _ _ _ _ _ => (dg_name 1 nd)) (fun _ _ _ _ _ => (dts_one (dt_cmp (o_nex hu) (de_ix (o_ix hu) (de_var 0) (de_var 1)) de_int (nomark _)))) (fun _ _ _ _ _ => (de_fz (de_var 1))) (fun _ _ _ _ _ => (de_ix (o_ix hu) (de_var 0) (de_var 1)))))))
theorem ok_reads_in (T : Txt P w K mg base) : FnG P w K mg base 1 T.f_reads_in T.d_reads_in ["machine"] (spP ⟨K, P, w⟩ 1 m_reads_in) :=
  fn_pure T.F_reads_in sc_reads_in fun cdv A outer s H E hg0 hr => by
    have nd := sc_reads_in.nd
    have hu := room_hu hr
    have hu1 := room_hu1 hr
    exact (ds_one (ds_ret (de_me m_join PySem.F.plainAttrs_str PySem.F.slot_str_join PySem.F.type_str_join de_str (da_cons (de_callB (c_sorted rfl hu) (by rfl) T.z_sorted (by decide +kernel) (da_cons (de_sc (own := [("place", 1), ("letter", 2)]) rfl nd (di_any (de_ix (o_ix hu) (de_var 0) de_int)) (by exact blkOk_by (N := ["machine", "place", "letter"]) (sc := defScope s_reads_in) (by decide +kernel)) (fun _ _ _ _ _ => (dg_tup rfl (dgs_cons (dg_name 1 nd) (dgs_cons (dg_name 2 nd) dgs_nil)))) (fun _ _ _ _ _ => dts_nil) (fun _ _ _ _ _ => (de_fz (de_var 2)))) da_nil)) da_nil))))
theorem ok_sends_in (T : Txt P w K mg base) : FnG P w K mg base 1 T.f_sends_in T.d_sends_in ["machine"] (spP ⟨K, P, w⟩ 1 m_sends_in) :=
  fn_pure T.F_sends_in sc_sends_in fun cdv A outer s H E hg0 hr => by
    have nd := sc_sends_in.nd
    have hu := room_hu hr
    have hu1 := room_hu1 hr
    exact (ds_cons (ds_set 1 nd (de_me m_join PySem.F.plainAttrs_str PySem.F.slot_str_join PySem.F.type_str_join de_str (da_cons (de_lc (own := [("goal", 2), ("mail", 3)]) rfl nd (di_valsD (de_ix (o_ix hu) (de_var 0) de_int)) (by exact blkOk_by (N := ["machine", "mails", "goal", "mail"]) (sc := defScope s_sends_in) (by decide +kernel)) (fun _ _ _ _ _ => (dg_tup rfl (dgs_cons (dg_name 2 nd) (dgs_cons (dg_name 3 nd) dgs_nil)))) (fun _ _ _ _ _ => dts_nil) (fun _ _ _ _ _ => (de_fz (de_var 3)))) da_nil)))
    (ds_one (ds_ret (de_me m_join PySem.F.plainAttrs_str PySem.F.slot_str_join PySem.F.type_str_join de_str (da_cons (de_callB (c_sorted rfl hu) (by rfl) T.z_sorted (by decide +kernel) (da_cons (de_callT (c_set rfl) (by rfl) T.z_set (by decide +kernel) (da_cons (de_var 1) da_nil)) da_nil)) da_nil)))))
theorem ok__law_dice (T : Txt P w K mg base) : FnG P w K mg base 1 T.f__law_dice T.d__law_dice ["script", "spot"] (spP ⟨K, P, w⟩ 2 m__law_dice) :=
  fn_pure T.F__law_dice sc__law_dice fun cdv A outer s H E hg0 hr => by
    have nd := sc__law_dice.nd
    have hu := room_hu hr
    have hu1 := room_hu1 hr
    exact (ds_cons (ds_set 2 nd (de_fz (de_if (dt_cmp o_lt (de_var 1) (de_callB c_lenS (by rfl) T.z_len (by decide +kernel) (da_cons (de_var 0) da_nil)) (nomark _)) (de_callT c_int (by rfl) T.z_int (by decide +kernel) (da_cons (de_ix (o_ix hu) (de_var 0) (de_var 1)) da_nil)) (de_fz (de_bin o_add (de_bin o_mul de_int (de_var 1)) de_int)))))
    (ds_cons (ds_set 3 nd (de_bin o_mod (de_callB (c_max rfl) (by rfl) T.z_max (by decide +kernel) (da_cons de_int (da_cons (de_bin o_sub (de_callB c_abs (by rfl) T.z_abs (by decide +kernel) (da_cons (de_var 2) da_nil)) (de_bin o_pow de_int de_int)) da_nil))) (de_bin o_mul (de_bin o_pow de_int de_int) (de_bin o_pow de_int de_int))))
    (ds_one (ds_ret (de_lst (da_cons (de_fz (de_var 3)) (da_cons (de_fz (de_bin o_add (de_bin o_add (de_bin o_add (de_bin o_mul (de_bin o_mod (de_callB c_abs (by rfl) T.z_abs (by decide +kernel) (da_cons (de_var 2) da_nil)) de_int) de_int) (de_bin o_mul de_int (de_var 1))) (de_bin o_mul de_int (de_callT c_int (by rfl) T.z_int (by decide +kernel) (da_cons (de_cmp o_lt (de_var 2) de_int (nomark _)) da_nil)))) de_int)) (da_cons de_int da_nil))))))))
theorem ok__law_roll (T : Txt P w K mg base) : FnG P w K mg base 1 T.f__law_roll T.d__law_roll ["dice", "total"] (spR ⟨K, P, w⟩ 2 m__law_roll) :=
  fn_ref T.F__law_roll sc__law_roll (by decide) fun cdv A outer s H E hg0 hr => by
    have nd := sc__law_roll.nd
    have hu := room_hu hr
    have hu1 := room_hu1 hr
    exact (ds_cons (ds_if (dt_cmp o_gt (de_ix (o_ix hu) (de_var 0) de_int) de_int (nomark _)) (ds_cons (ds_set 2 nd (de_bin o_mod (de_callT c_int (by rfl) T.z_int (by decide +kernel) (da_cons (de_ix (o_ix hu) (de_var 0) de_int) da_nil)) (de_var 1)))
    (ds_cons (ds_item 0 (o_set hu1) (de_bin o_div (de_ix (o_ix hu) (de_var 0) de_int) (de_var 1)) de_int)
    (ds_one (ds_ret (de_fz (de_var 2)))))) ds_nil)
    (ds_cons (ds_item 0 (o_set hu1) (de_fz (de_bin o_add (de_ix (o_ix hu) (de_var 0) de_int) de_int)) de_int)
    (ds_cons (ds_set 3 nd (de_bin o_mod (de_callT c_int (by rfl) T.z_int (by decide +kernel) (da_cons (de_bin o_add (de_ix (o_ix hu) (de_var 0) de_int) (de_bin o_mul de_int (de_ix (o_ix hu) (de_var 0) de_int))) da_nil)) de_int))
    (ds_cons (ds_set 4 nd (de_bin o_add (de_bin o_mul (de_bin o_mod (de_callT c_int (by rfl) T.z_int (by decide +kernel) (da_cons (de_bin o_add (de_bin o_mul (de_var 3) (de_var 3)) (de_bin o_mul de_int (de_ix (o_ix hu) (de_var 0) de_int))) da_nil)) de_int) de_int) (de_var 3)))
    (ds_one (ds_ret (de_bin o_mod (de_callT c_int (by rfl) T.z_int (by decide +kernel) (da_cons (de_bin o_div (de_var 4) de_int) da_nil)) (de_var 1))))))))
theorem ok__law_counts (T : Txt P w K mg base) : FnG P w K mg base 1 T.f__law_counts T.d__law_counts ["row"] (spP ⟨K, P, w⟩ 1 m__law_counts) :=
  fn_pure T.F__law_counts sc__law_counts fun cdv A outer s H E hg0 hr => by
    have nd := sc__law_counts.nd
    have hu := room_hu hr
    have hu1 := room_hu1 hr
    exact (ds_one (ds_ret (de_fz (de_callT (c_dict false rfl hu) (by rfl) T.z_dict (by decide +kernel) (da_cons (de_lc (own := [("letter", 1)]) rfl nd (di_any (de_fz (de_callB (c_sorted rfl hu) (by rfl) T.z_sorted (by decide +kernel) (da_cons (de_callT (c_set rfl) (by rfl) T.z_set (by decide +kernel) (da_cons (de_var 0) da_nil)) da_nil)))) (by exact blkOk_by (N := ["row", "letter"]) (sc := defScope s__law_counts) (by decide +kernel)) (fun _ _ _ _ _ => (dg_name 1 nd)) (fun _ _ _ _ _ => dts_nil) (fun _ _ _ _ _ => (de_tup (da_cons (de_fz (de_var 1)) (da_cons (de_me m_count PySem.F.plainAttrs_str PySem.F.slot_str_count PySem.F.type_str_count (de_var 0) (da_cons (de_var 1) da_nil)) da_nil))))) da_nil)))))
theorem ok__law_told (T : Txt P w K mg base) : FnG P w K mg base 1 T.f__law_told T.d__law_told ["numbers"] (spP ⟨K, P, w⟩ 1 m__law_told) :=
  fn_pure T.F__law_told sc__law_told fun cdv A outer s H E hg0 hr => by
    have nd := sc__law_told.nd
    have hu := room_hu hr
    have hu1 := room_hu1 hr
    exact (ds_one (ds_ret (de_fz (de_callT (c_dict false rfl hu) (by rfl) T.z_dict (by decide +kernel) (da_cons (de_lc (own := [("letter", 1)]) rfl nd (di_any (de_fz (de_callB (c_sorted rfl hu) (by rfl) T.z_sorted (by decide +kernel) (da_cons (de_var 0) da_nil)))) (by exact blkOk_by (N := ["numbers", "letter"]) (sc := defScope s__law_told) (by decide +kernel)) (fun _ _ _ _ _ => (dg_name 1 nd)) (fun _ _ _ _ _ => (dts_one (dt_cmp (o_nex hu) (de_ix (o_ix hu) (de_var 0) (de_var 1)) de_int (nomark _)))) (fun _ _ _ _ _ => (de_tup (da_cons (de_fz (de_var 1)) (da_cons (de_ix (o_ix hu) (de_var 0) (de_var 1)) da_nil))))) da_nil)))))
theorem ok__law_reads (T : Txt P w K mg base) : FnG P w K mg base 1 T.f__law_reads T.d__law_reads ["machine"] (spP ⟨K, P, w⟩ 1 m__law_reads) :=
  fn_pure T.F__law_reads sc__law_reads fun cdv A outer s H E hg0 hr => by
    have nd := sc__law_reads.nd
    have hu := room_hu hr
    have hu1 := room_hu1 hr
    exact (ds_one (ds_ret (de_me m_join PySem.F.plainAttrs_str PySem.F.slot_str_join PySem.F.type_str_join de_str (da_cons (de_callB (c_sorted rfl hu) (by rfl) T.z_sorted (by decide +kernel) (da_cons (de_callT (c_set rfl) (by rfl) T.z_set (by decide +kernel) (da_cons (de_lc (own := [("key", 1)]) rfl nd (di_any (de_ix (o_ix hu) (de_var 0) de_int)) (by exact blkOk_by (N := ["machine", "key"]) (sc := defScope s__law_reads) (by decide +kernel)) (fun _ _ _ _ _ => (dg_name 1 nd)) (fun _ _ _ _ _ => dts_nil) (fun _ _ _ _ _ => (de_ix (o_ix hu) (de_var 1) de_int))) da_nil)) da_nil)) da_nil))))
theorem ok__law_sends (T : Txt P w K mg base) : FnG P w K mg base 1 T.f__law_sends T.d__law_sends ["machine"] (spP ⟨K, P, w⟩ 1 m__law_sends) :=
  fn_pure T.F__law_sends sc__law_sends fun cdv A outer s H E hg0 hr => by
    have nd := sc__law_sends.nd
    have hu := room_hu hr
    have hu1 := room_hu1 hr
    exact (ds_one (ds_ret (de_me m_join PySem.F.plainAttrs_str PySem.F.slot_str_join PySem.F.type_str_join de_str (da_cons (de_callB (c_sorted rfl hu) (by rfl) T.z_sorted (by decide +kernel) (da_cons (de_callT (c_set rfl) (by rfl) T.z_set (by decide +kernel) (da_cons (de_me m_join PySem.F.plainAttrs_str PySem.F.slot_str_join PySem.F.type_str_join de_str (da_cons (de_lc (own := [("key", 1)]) rfl nd (di_any (de_ix (o_ix hu) (de_var 0) de_int)) (by exact blkOk_by (N := ["machine", "key"]) (sc := defScope s__law_sends) (by decide +kernel)) (fun _ _ _ _ _ => (dg_name 1 nd)) (fun _ _ _ _ _ => dts_nil) (fun _ _ _ _ _ => (de_ix (o_ix hu) (de_ix (o_ix hu) (de_ix (o_ix hu) (de_var 0) de_int) (de_var 1)) de_int))) da_nil)) da_nil)) da_nil)) da_nil))))
theorem ok_is_short (T : Txt P w K mg base) : FnG P w K mg base 2 T.f_is_short T.d_is_short ["value"] (spP ⟨K, P, w⟩ 1 m_is_short) :=
  fn_pure T.F_is_short sc_is_short fun cdv A outer s H E hg0 hr => by
    have nd := sc_is_short.nd
    have hu := room_hu hr
    have hu1 := room_hu1 hr
    exact (ds_one (ds_ret (de_and (de_cP 1 m_is_whole hg0 (ok_is_whole T) (hr.mono (by decide)) T.g_is_whole T.F_is_whole.kp T.b_is_whole (da_cons (de_fz (de_var 0)) da_nil)) (de_one (de_chain o_lt o_lt (de_un o_neg (de_gint T.g_FAR)) (de_var 0) (de_gint T.g_FAR))))))
theorem ok_is_within (T : Txt P w K mg base) : FnG P w K mg base 2 T.f_is_within T.d_is_within ["value", "least", "most"] (spP ⟨K, P, w⟩ 3 m_is_within) :=
  fn_pure T.F_is_within sc_is_within fun cdv A outer s H E hg0 hr => by
    have nd := sc_is_within.nd
    have hu := room_hu hr
    have hu1 := room_hu1 hr
    exact (ds_one (ds_ret (de_and (de_cP 1 m_is_whole hg0 (ok_is_whole T) (hr.mono (by decide)) T.g_is_whole T.F_is_whole.kp T.b_is_whole (da_cons (de_fz (de_var 0)) da_nil)) (de_one (de_chain o_le o_le (de_var 1) (de_var 0) (de_var 2))))))
theorem ok_counts_in (T : Txt P w K mg base) : FnG P w K mg base 2 T.f_counts_in T.d_counts_in ["row"] (spP ⟨K, P, w⟩ 1 m_counts_in) :=
  fn_pure T.F_counts_in sc_counts_in fun cdv A outer s H E hg0 hr => by
    have nd := sc_counts_in.nd
    have hu := room_hu hr
    have hu1 := room_hu1 hr
    exact (ds_one (ds_ret (de_cP 1 m_told hg0 (ok_told T) (hr.mono (by decide)) T.g_told T.F_told.kp T.b_told (da_cons (de_fz (de_dc (own := [("letter", 1)]) rfl nd (di_any (de_fz (de_callB (c_sorted rfl hu) (by rfl) T.z_sorted (by decide +kernel) (da_cons (de_callT (c_set rfl) (by rfl) T.z_set (by decide +kernel) (da_cons (de_var 0) da_nil)) da_nil)))) (by exact blkOk_by (N := ["row", "letter"]) (sc := defScope s_counts_in) (by decide +kernel)) (fun _ _ _ _ _ => (dg_name 1 nd)) (fun _ _ _ _ _ => dts_nil) (fun _ _ _ _ _ => (de_fz (de_var 1))) (fun _ _ _ _ _ => (de_me m_count PySem.F.plainAttrs_str PySem.F.slot_str_count PySem.F.type_str_count (de_var 0) (da_cons (de_var 1) da_nil))))) da_nil))))
theorem ok_is_row_in (T : Txt P w K mg base) : FnG P w K mg base 2 T.f_is_row_in T.d_is_row_in ["value"] (spP ⟨K, P, w⟩ 1 m_is_row_in) :=
  fn_pure T.F_is_row_in sc_is_row_in fun cdv A outer s H E hg0 hr => by
    have nd := sc_is_row_in.nd
    have hu := room_hu hr
    have hu1 := room_hu1 hr
    exact (ds_one (ds_ret (de_and (de_cP 1 m_is_letters hg0 (ok_is_letters T) (hr.mono (by decide)) T.g_is_letters T.F_is_letters.kp T.b_is_letters (da_cons (de_fz (de_var 0)) da_nil)) (de_one (de_cmp o_le (de_callB c_lenS (by rfl) T.z_len (by decide +kernel) (da_cons (de_var 0) da_nil)) (de_gint T.g_MAX_ROW) (nomark _))))))
theorem ok_is_mail (T : Txt P w K mg base) : FnG P w K mg base 2 T.f_is_mail T.d_is_mail ["value"] (spP ⟨K, P, w⟩ 1 m_is_mail) :=
  fn_pure T.F_is_mail sc_is_mail fun cdv A outer s H E hg0 hr => by
    have nd := sc_is_mail.nd
    have hu := room_hu hr
    have hu1 := room_hu1 hr
    exact (ds_one (ds_ret (de_and (de_cP 1 m_is_letters hg0 (ok_is_letters T) (hr.mono (by decide)) T.g_is_letters T.F_is_letters.kp T.b_is_letters (da_cons (de_fz (de_var 0)) da_nil)) (de_and (de_cmp o_le (de_callB c_lenS (by rfl) T.z_len (by decide +kernel) (da_cons (de_var 0) da_nil)) (de_gint T.g_MAX_MAIL) (nomark _)) (de_one (de_cmp (o_eqx hu) (de_callT (c_list rfl) (by rfl) T.z_list (by decide +kernel) (da_cons (de_var 0) da_nil)) (de_callB (c_sorted rfl hu) (by rfl) T.z_sorted (by decide +kernel) (da_cons (de_var 0) da_nil)) (nomark _)))))))
theorem ok_require_read (T : Txt P w K mg base) : FnG P w K mg base 2 T.f_require_read T.d_require_read ["machine", "letter"] (spP ⟨K, P, w⟩ 2 m_require_read) :=
  fn_pure T.F_require_read sc_require_read fun cdv A outer s H E hg0 hr => by
    have nd := sc_require_read.nd
    have hu := room_hu hr
    have hu1 := room_hu1 hr
    exact (ds_one (ds_if (PW.pt (dt_or (dt_not (dt_val (de_cP 1 m_is_letter hg0 (ok_is_letter T) (hr.mono (by decide)) T.g_is_letter T.F_is_letter.kp T.b_is_letter (da_cons (de_fz (de_var 1)) da_nil)))) (dt_or1 (dt_cmp (o_nin hu) (de_var 1) (de_cP 1 m_reads_in hg0 (ok_reads_in T) (hr.mono (by decide)) T.g_reads_in T.F_reads_in.kp T.b_reads_in (da_cons (de_fz (de_var 0)) da_nil)) (by rfl))))) (ds_one ds_never) ds_nil))
theorem ok__law_pick (T : Txt P w K mg base) : FnG P w K mg base 2 T.f__law_pick T.d__law_pick ["dice", "items"] (spR ⟨K, P, w⟩ 2 m__law_pick) :=
  fn_ref T.F__law_pick sc__law_pick (by decide) fun cdv A outer s H E hg0 hr => by
    have nd := sc__law_pick.nd
    have hu := room_hu hr
    have hu1 := room_hu1 hr
    exact (ds_one (ds_ret (de_ix (o_ix hu) (de_var 1) (de_cR 2 m__law_roll hg0 (ok__law_roll T) (hr.mono (by decide)) T.g__law_roll T.F__law_roll.kp T.b__law_roll (da_cons (de_var 0) (da_cons (de_callB c_lenS (by rfl) T.z_len (by decide +kernel) (da_cons (de_var 1) da_nil)) da_nil))))))
theorem ok__law_added (T : Txt P w K mg base) : FnG P w K mg base 2 T.f__law_added T.d__law_added ["one", "other"] (spP ⟨K, P, w⟩ 2 m__law_added) :=
  fn_pure T.F__law_added sc__law_added fun cdv A outer s H E hg0 hr => by
    have nd := sc__law_added.nd
    have hu := room_hu hr
    have hu1 := room_hu1 hr
    exact (ds_one (ds_ret (de_cP 1 m__law_told hg0 (ok__law_told T) (hr.mono (by decide)) T.g__law_told T.F__law_told.kp T.b__law_told (da_cons (de_fz (de_callT (c_dict false rfl hu) (by rfl) T.z_dict (by decide +kernel) (da_cons (de_lc (own := [("letter", 2)]) rfl nd (di_any (de_fz (de_bin o_add (de_callT (c_list rfl) (by rfl) T.z_list (by decide +kernel) (da_cons (de_var 0) da_nil)) (de_callT (c_list rfl) (by rfl) T.z_list (by decide +kernel) (da_cons (de_var 1) da_nil))))) (by exact blkOk_by (N := ["one", "other", "letter"]) (sc := defScope s__law_added) (by decide +kernel)) (fun _ _ _ _ _ => (dg_name 2 nd)) (fun _ _ _ _ _ => dts_nil) (fun _ _ _ _ _ => (de_tup (da_cons (de_fz (de_var 2)) (da_cons (de_fz (de_bin o_add (de_me (m_get hu) PySem.F.plainAttrs_dict PySem.F.slot_dict_get PySem.F.type_dict_get (de_var 0) (da_cons (de_fz (de_var 2)) (da_cons de_int da_nil))) (de_me (m_get hu) PySem.F.plainAttrs_dict PySem.F.slot_dict_get PySem.F.type_dict_get (de_var 1) (da_cons (de_fz (de_var 2)) (da_cons de_int da_nil))))) da_nil))))) da_nil))) da_nil))))
theorem ok__law_walked (T : Txt P w K mg base) : FnG P w K mg base 2 T.f__law_walked T.d__law_walked ["machine", "place", "row"] (spP ⟨K, P, w⟩ 3 m__law_walked) :=
  fn_pure T.F__law_walked sc__law_walked fun cdv A outer s H E hg0 hr => by
    have nd := sc__law_walked.nd
    have hu := room_hu hr
    have hu1 := room_hu1 hr
    exact (ds_cons (ds_par 3 4 rfl nd (de_fz (de_var 1)) de_str)
    (ds_cons (ds_for rfl (di_any (de_fz (de_var 2))) (dg_name 5 nd)
    (ds_cons (ds_asg (de_ix (o_ix hu) (de_ix (o_ix hu) (de_var 0) de_int) (de_tup (da_cons (de_fz (de_var 3)) (da_cons (de_fz (de_var 5)) da_nil)))) (dg_tup rfl (dgs_cons (dg_name 3 nd) (dgs_cons (dg_name 6 nd) dgs_nil))))
    (ds_one (ds_set 4 nd (de_bin o_add (de_var 4) (de_var 6))))) PassesOwn.never)
    (ds_one (ds_ret (de_tup (da_cons (de_fz (de_var 3)) (da_cons (de_cP 1 m__law_counts hg0 (ok__law_counts T) (hr.mono (by decide)) T.g__law_counts T.F__law_counts.kp T.b__law_counts (da_cons (de_fz (de_var 4)) da_nil)) da_nil)))))))
theorem ok__law_both (T : Txt P w K mg base) : FnG P w K mg base 2 T.f__law_both T.d__law_both ["one", "other"] (spP2 ⟨K, P, w⟩ 2 m__law_both) :=
  fn_pure2 T.F__law_both sc__law_both fun cdv A outer s H E hg0 hr => by
    have nd := sc__law_both.nd
    have hu := room_hu hr
    have hu1 := room_hu1 hr
    exact (ds_cons (ds_par3 2 3 4 rfl nd (de_lst (da_cons (de_tup (da_cons de_int (da_cons de_int da_nil))) da_nil)) (de_dnew true) (de_cP 1 m__law_reads hg0 (ok__law_reads T) (hr.mono (by decide)) T.g__law_reads T.F__law_reads.kp T.b__law_reads (da_cons (de_fz (de_var 0)) da_nil)))
    (ds_cons (ds_for rfl (di_rng1 (da_cons (de_bin o_mul (de_ix (o_ix hu) (de_var 0) de_int) (de_ix (o_ix hu) (de_var 1) de_int)) da_nil) (by rfl) T.z_range) (dg_name 5 nd)
    (ds_one (ds_for rfl (di_any (de_fz (de_if (dt_cmp o_lt (de_var 5) (de_callB c_lenS (by rfl) T.z_len (by decide +kernel) (da_cons (de_var 2) da_nil)) (nomark _)) (de_fz (de_var 4)) de_str))) (dg_name 6 nd)
    (ds_cons (ds_asg (de_ix (o_ix hu) (de_var 2) (de_var 5)) (dg_tup rfl (dgs_cons (dg_name 7 nd) (dgs_cons (dg_name 8 nd) dgs_nil))))
    (ds_cons (ds_par 9 10 rfl nd (de_ix (o_ix hu) (de_ix (o_ix hu) (de_var 0) de_int) (de_tup (da_cons (de_fz (de_var 7)) (da_cons (de_fz (de_var 6)) da_nil)))) (de_ix (o_ix hu) (de_ix (o_ix hu) (de_var 1) de_int) (de_tup (da_cons (de_fz (de_var 8)) (da_cons (de_fz (de_var 6)) da_nil)))))
    (ds_cons (ds_if (dt_cmp (o_nin hu) (de_tup (da_cons (de_ix (o_ix hu) (de_var 9) de_int) (da_cons (de_ix (o_ix hu) (de_var 10) de_int) da_nil))) (de_var 2) (by rfl)) (ds_one (ds_expr (de_mutL 2 m_append PySem.F.slot_list_append PySem.F.type_list_append (da_cons (de_tup (da_cons (de_ix (o_ix hu) (de_var 9) de_int) (da_cons (de_ix (o_ix hu) (de_var 10) de_int) da_nil))) da_nil) appO_l))) ds_nil)
    (ds_one (ds_item 3 (o_set hu1) (de_tup (da_cons (de_me (m_index hu) PySem.F.plainAttrs_list PySem.F.slot_list_index PySem.F.type_list_index (de_var 2) (da_cons (de_tup (da_cons (de_ix (o_ix hu) (de_var 9) de_int) (da_cons (de_ix (o_ix hu) (de_var 10) de_int) da_nil))) da_nil)) (da_cons (de_me m_join PySem.F.plainAttrs_str PySem.F.slot_str_join PySem.F.type_str_join de_str (da_cons (de_callB (c_sorted rfl hu) (by rfl) T.z_sorted (by decide +kernel) (da_cons (de_bin o_add (de_ix (o_ix hu) (de_var 9) de_int) (de_ix (o_ix hu) (de_var 10) de_int)) da_nil)) da_nil)) da_nil))) (de_tup (da_cons (de_fz (de_var 5)) (da_cons (de_fz (de_var 6)) da_nil)))))))) PassesOwn.never)) PassesOwn.never)
    (ds_one (ds_ret2 3 (de_callB c_lenS (by rfl) T.z_len (by decide +kernel) (da_cons (de_var 2) da_nil))))))
theorem ok_require_number (T : Txt P w K mg base) : FnG P w K mg base 3 T.f_require_number T.d_require_number ["value", "least", "most"] (spP ⟨K, P, w⟩ 3 m_require_number) :=
  fn_pure T.F_require_number sc_require_number fun cdv A outer s H E hg0 hr => by
    have nd := sc_require_number.nd
    have hu := room_hu hr
    have hu1 := room_hu1 hr
    exact (ds_one (ds_if (PW.pt (dt_or (dt_not (dt_val (de_cP 1 m_is_short hg0 (ok_is_short T) (hr.mono (by decide)) T.g_is_short T.F_is_short.kp T.b_is_short (da_cons (de_fz (de_var 0)) da_nil)))) (dt_or (PW.pt (dt_and (dt_cmp o_isn (de_var 1) de_non (nomark _)) (dt_and1 (dt_cmp o_lt (de_var 0) (de_var 1) (nomark _))))) (dt_or1 (PW.pt (dt_and (dt_cmp o_isn (de_var 2) de_non (nomark _)) (dt_and1 (dt_cmp o_gt (de_var 0) (de_var 2) (nomark _))))))))) (ds_one ds_never) ds_nil))
theorem ok_require_row (T : Txt P w K mg base) : FnG P w K mg base 3 T.f_require_row T.d_require_row ["value"] (spP ⟨K, P, w⟩ 1 m_require_row) :=
  fn_pure T.F_require_row sc_require_row fun cdv A outer s H E hg0 hr => by
    have nd := sc_require_row.nd
    have hu := room_hu hr
    have hu1 := room_hu1 hr
    exact (ds_one (ds_if (dt_not (dt_val (de_cP 1 m_is_row_in hg0 (ok_is_row_in T) (hr.mono (by decide)) T.g_is_row_in T.F_is_row_in.kp T.b_is_row_in (da_cons (de_fz (de_var 0)) da_nil)))) (ds_one ds_never) ds_nil))
theorem ok_is_step_key (T : Txt P w K mg base) : FnG P w K mg base 3 T.f_is_step_key T.d_is_step_key ["key", "places"] (spP ⟨K, P, w⟩ 2 m_is_step_key) :=
  fn_pure T.F_is_step_key sc_is_step_key fun cdv A outer s H E hg0 hr => by
    have nd := sc_is_step_key.nd
    have hu := room_hu hr
    have hu1 := room_hu1 hr
    exact (ds_one (ds_ret (de_and (de_cP 1 m_is_pair hg0 (ok_is_pair T) (hr.mono (by decide)) T.g_is_pair T.F_is_pair.kp T.b_is_pair (da_cons (de_fz (de_var 0)) da_nil)) (de_and (de_cP 3 m_is_within hg0 (ok_is_within T) (hr.mono (by decide)) T.g_is_within T.F_is_within.kp T.b_is_within (da_cons (de_ix (o_ix hu) (de_var 0) de_int) (da_cons de_int (da_cons (de_bin o_sub (de_var 1) de_int) da_nil)))) (de_one (de_cP 1 m_is_letter hg0 (ok_is_letter T) (hr.mono (by decide)) T.g_is_letter T.F_is_letter.kp T.b_is_letter (da_cons (de_ix (o_ix hu) (de_var 0) de_int) da_nil)))))))
theorem ok_walked (T : Txt P w K mg base) : FnG P w K mg base 3 T.f_walked T.d_walked ["machine", "place", "row"] (spP ⟨K, P, w⟩ 3 m_walked) :=
  fn_pure T.F_walked sc_walked fun cdv A outer s H E hg0 hr => by
    have nd := sc_walked.nd
    have hu := room_hu hr
    have hu1 := room_hu1 hr
    exact (ds_cons (ds_par 3 4 rfl nd (de_fz (de_var 1)) (de_lst da_nil))
    (ds_cons (ds_for rfl (di_any (de_fz (de_var 2))) (dg_name 5 nd)
    (ds_cons (ds_asg (de_ix (o_ix hu) (de_ix (o_ix hu) (de_var 0) de_int) (de_tup (da_cons (de_fz (de_var 3)) (da_cons (de_fz (de_var 5)) da_nil)))) (dg_tup rfl (dgs_cons (dg_name 3 nd) (dgs_cons (dg_name 6 nd) dgs_nil))))
    (ds_one (ds_expr (de_mutL 4 m_append PySem.F.slot_list_append PySem.F.type_list_append (da_cons (de_fz (de_var 6)) da_nil) appO_l)))) PassesOwn.never)
    (ds_one (ds_ret (de_tup (da_cons (de_fz (de_var 3)) (da_cons (de_cP 1 m_counts_in hg0 (ok_counts_in T) (hr.mono (by decide)) T.g_counts_in T.F_counts_in.kp T.b_counts_in (da_cons (de_me m_join PySem.F.plainAttrs_str PySem.F.slot_str_join PySem.F.type_str_join de_str (da_cons (de_var 4) da_nil)) da_nil)) da_nil)))))))
theorem ok__law_row_drawn (T : Txt P w K mg base) : FnG P w K mg base 3 T.f__law_row_drawn T.d__law_row_drawn ["dice", "most", "letters"] (spR ⟨K, P, w⟩ 3 m__law_row_drawn) :=
  fn_ref T.F__law_row_drawn sc__law_row_drawn (by decide) fun cdv A outer s H E hg0 hr => by
    have nd := sc__law_row_drawn.nd
    have hu := room_hu hr
    have hu1 := room_hu1 hr
    exact (ds_one (ds_ret (de_me m_join PySem.F.plainAttrs_str PySem.F.slot_str_join PySem.F.type_str_join de_str (da_cons (de_lc (own := [("turn", 3)]) rfl nd (di_rng1 (da_cons (de_if (dt_cmp (o_nex hu) (de_var 2) de_str (nomark _)) (de_cR 2 m__law_roll hg0 (ok__law_roll T) (hr.mono (by decide)) T.g__law_roll T.F__law_roll.kp T.b__law_roll (da_cons (de_var 0) (da_cons (de_fz (de_bin o_add (de_var 1) de_int)) da_nil))) de_int) da_nil) (by rfl) T.z_range) (by exact blkOk_by (N := ["dice", "most", "letters", "turn"]) (sc := defScope s__law_row_drawn) (by decide +kernel)) (fun _ _ _ _ _ => (dg_name 3 nd)) (fun _ _ _ _ _ => dts_nil) (fun _ _ _ _ _ => (de_cR 2 m__law_pick hg0 (ok__law_pick T) (hr.mono (by decide)) T.g__law_pick T.F__law_pick.kp T.b__law_pick (da_cons (de_var 0) (da_cons (de_fz (de_var 2)) da_nil))))) da_nil))))
theorem ok_require_read_row (T : Txt P w K mg base) : FnG P w K mg base 4 T.f_require_read_row T.d_require_read_row ["machine", "row"] (spP ⟨K, P, w⟩ 2 m_require_read_row) :=
  fn_pure T.F_require_read_row sc_require_read_row fun cdv A outer s H E hg0 hr => by
    have nd := sc_require_read_row.nd
    have hu := room_hu hr
    have hu1 := room_hu1 hr
    exact (ds_cons (ds_expr (de_cP 1 m_require_row hg0 (ok_require_row T) (hr.mono (by decide)) T.g_require_row T.F_require_row.kp T.b_require_row (da_cons (de_fz (de_var 1)) da_nil)))
    (ds_cons (ds_set 2 nd (de_cP 1 m_reads_in hg0 (ok_reads_in T) (hr.mono (by decide)) T.g_reads_in T.F_reads_in.kp T.b_reads_in (da_cons (de_fz (de_var 0)) da_nil)))
    (ds_one (ds_for rfl (di_any (de_fz (de_var 1))) (dg_name 3 nd)
    (ds_one (ds_if (dt_cmp (o_nin hu) (de_var 3) (de_var 2) (by rfl)) (ds_one ds_never) ds_nil)) PassesOwn.never))))
theorem ok_is_machine (T : Txt P w K mg base) : FnG P w K mg base 4 T.f_is_machine T.d_is_machine ["value"] (spP ⟨K, P, w⟩ 1 m_is_machine) :=
  fn_pure T.F_is_machine sc_is_machine fun cdv A outer s H E hg0 hr => by
    have nd := sc_is_machine.nd
    have hu := room_hu hr
    have hu1 := room_hu1 hr
    exact (ds_cons (ds_if (PW.pt (dt_or (dt_not (dt_val (de_cP 1 m_is_pair hg0 (ok_is_pair T) (hr.mono (by decide)) T.g_is_pair T.F_is_pair.kp T.b_is_pair (da_cons (de_fz (de_var 0)) da_nil)))) (dt_or (dt_not (dt_val (de_cP 3 m_is_within hg0 (ok_is_within T) (hr.mono (by decide)) T.g_is_within T.F_is_within.kp T.b_is_within (da_cons (de_ix (o_ix hu) (de_var 0) de_int) (da_cons de_int (da_cons (de_gint T.g_MAX_PLACES) da_nil)))))) (dt_or1 (dt_not (dt_val (de_isi (T := "") (de_ix (o_ix hu) (de_var 0) de_int) (by rfl) T.z_isinstance (by rfl) T.z_dict (by decide +kernel)))))))) (ds_one (ds_ret de_bl)) ds_nil)
    (ds_cons (ds_asg (de_fz (de_var 0)) (dg_tup rfl (dgs_cons (dg_name 1 nd) (dgs_cons (dg_name 2 nd) dgs_nil))))
    (ds_cons (ds_if (dt_not (dt_val (de_callB (c_all rfl) (by rfl) T.z_all (by decide +kernel) (da_cons (de_lc (own := [("key", 8)]) rfl nd (di_any (de_fz (de_var 2))) (by exact blkOk_by (N := ["value", "places", "steps", "letters", "goals", "place", "letter", "step", "key"]) (sc := defScope s_is_machine) (by decide +kernel)) (fun _ _ _ _ _ => (dg_name 8 nd)) (fun _ _ _ _ _ => dts_nil) (fun _ _ _ _ _ => (de_cP 2 m_is_step_key hg0 (ok_is_step_key T) (hr.mono (by decide)) T.g_is_step_key T.F_is_step_key.kp T.b_is_step_key (da_cons (de_fz (de_var 8)) (da_cons (de_fz (de_var 1)) da_nil))))) da_nil)))) (ds_one (ds_ret de_bl)) ds_nil)
    (ds_cons (ds_setSc 3 (own := [("place", 5), ("letter", 6)]) rfl nd (di_any (de_fz (de_var 2))) (by exact blkOk_by (N := ["value", "places", "steps", "letters", "goals", "place", "letter", "step", "key"]) (sc := defScope s_is_machine) (by decide +kernel)) (fun _ _ _ _ _ => (dg_tup rfl (dgs_cons (dg_name 5 nd) (dgs_cons (dg_name 6 nd) dgs_nil)))) (fun _ _ _ _ _ => dts_nil) (fun _ _ _ _ _ => (de_fz (de_var 6))))
    (ds_cons (ds_if (PW.pt (dt_or (dt_cmp o_gt (de_callB c_lenS (by rfl) T.z_len (by decide +kernel) (da_cons (de_var 3) da_nil)) (de_gint T.g_MAX_READ) (nomark _)) (dt_or1 (dt_cmp (o_nex hu) (de_callB c_lenS (by rfl) T.z_len (by decide +kernel) (da_cons (de_var 2) da_nil)) (de_bin o_mul (de_var 1) (de_callB c_lenS (by rfl) T.z_len (by decide +kernel) (da_cons (de_var 3) da_nil))) (nomark _))))) (ds_one (ds_ret de_bl)) ds_nil)
    (ds_cons (ds_set 4 nd (de_listv rfl hu (de_var 2) (by rfl) T.z_list))
    (ds_one (ds_ret (de_callB (c_all rfl) (by rfl) T.z_all (by decide +kernel) (da_cons (de_lc (own := [("step", 7)]) rfl nd (di_any (de_fz (de_var 4))) (by exact blkOk_by (N := ["value", "places", "steps", "letters", "goals", "place", "letter", "step", "key"]) (sc := defScope s_is_machine) (by decide +kernel)) (fun _ _ _ _ _ => (dg_name 7 nd)) (fun _ _ _ _ _ => dts_nil) (fun _ _ _ _ _ => (de_and (de_cP 1 m_is_pair hg0 (ok_is_pair T) (hr.mono (by decide)) T.g_is_pair T.F_is_pair.kp T.b_is_pair (da_cons (de_fz (de_var 7)) da_nil)) (de_and (de_cP 3 m_is_within hg0 (ok_is_within T) (hr.mono (by decide)) T.g_is_within T.F_is_within.kp T.b_is_within (da_cons (de_ix (o_ix hu) (de_var 7) de_int) (da_cons de_int (da_cons (de_bin o_sub (de_var 1) de_int) da_nil)))) (de_one (de_cP 1 m_is_mail hg0 (ok_is_mail T) (hr.mono (by decide)) T.g_is_mail T.F_is_mail.kp T.b_is_mail (da_cons (de_ix (o_ix hu) (de_var 7) de_int) da_nil))))))) da_nil))))))))))
theorem ok__law_unit_machine (T : Txt P w K mg base) : FnG P w K mg base 4 T.f__law_unit_machine T.d__law_unit_machine ["dice", "reads", "sends", "most"] (spR2 ⟨K, P, w⟩ 4 m__law_unit_machine) :=
  fn_ref2 T.F__law_unit_machine sc__law_unit_machine (by decide) fun cdv A outer s H E hg0 hr => by
    have nd := sc__law_unit_machine.nd
    have hu := room_hu hr
    have hu1 := room_hu1 hr
    exact (ds_cons (ds_par3 4 5 6 rfl nd (de_cR 2 m__law_roll hg0 (ok__law_roll T) (hr.mono (by decide)) T.g__law_roll T.F__law_roll.kp T.b__law_roll (da_cons (de_var 0) (da_cons de_int da_nil))) (de_bin o_add de_int (de_cR 2 m__law_roll hg0 (ok__law_roll T) (hr.mono (by decide)) T.g__law_roll T.F__law_roll.kp T.b__law_roll (da_cons (de_var 0) (da_cons de_int da_nil)))) (de_dnew true))
    (ds_cons (ds_setLcS 7 (own := [("unit", 13)]) rfl nd (di_rng1 (da_cons (de_bin o_add (de_var 4) (de_var 5)) da_nil) (by rfl) T.z_range) (by exact blkOk_by (N := ["dice", "reads", "sends", "most", "bound", "period", "steps", "mails", "letter", "weight", "place", "here", "sent", "unit"]) (sc := defScope s__law_unit_machine) (by decide +kernel)) (fun _ _ _ _ _ => (dg_name 13 nd)) (fun _ _ _ _ _ => dts_nil) (fun _ _ _ _ _ => (de_me m_join PySem.F.plainAttrs_str PySem.F.slot_str_join PySem.F.type_str_join de_str (da_cons (de_callB (c_sorted rfl hu) (by rfl) T.z_sorted (by decide +kernel) (da_cons (de_cR 3 m__law_row_drawn hg0 (ok__law_row_drawn T) (hr.mono (by decide)) T.g__law_row_drawn T.F__law_row_drawn.kp T.b__law_row_drawn (da_cons (de_var 0) (da_cons (de_fz (de_var 3)) (da_cons (de_fz (de_var 2)) da_nil)))) da_nil)) da_nil))))
    (ds_cons (ds_for rfl (di_any (de_fz (de_var 1))) (dg_name 8 nd)
    (ds_cons (ds_set 9 nd (de_cR 2 m__law_pick hg0 (ok__law_pick T) (hr.mono (by decide)) T.g__law_pick T.F__law_pick.kp T.b__law_pick (da_cons (de_var 0) (da_cons (de_fz (de_lst (da_cons de_int (da_cons de_int (da_cons de_int (da_cons de_int (da_cons de_int (da_cons de_int da_nil)))))))) da_nil))))
    (ds_one (ds_for rfl (di_rng1 (da_cons (de_bin o_add (de_var 4) (de_var 5)) da_nil) (by rfl) T.z_range) (dg_name 10 nd)
    (ds_cons (ds_par 11 12 rfl nd (de_fz (de_var 10)) de_str)
    (ds_cons (ds_for rfl (di_rng1 (da_cons (de_var 9) da_nil) (by rfl) T.z_range) (dg_name 13 nd)
    (ds_cons (ds_set 12 nd (de_bin o_add (de_var 12) (de_ix (o_ix hu) (de_var 7) (de_var 11))))
    (ds_one (ds_set 11 nd (de_fz (de_if (dt_cmp o_lt (de_bin o_add (de_var 11) de_int) (de_bin o_add (de_var 4) (de_var 5)) (nomark _)) (de_fz (de_bin o_add (de_var 11) de_int)) (de_fz (de_var 4))))))) PassesOwn.never)
    (ds_one (ds_item 6 (o_set hu1) (de_tup (da_cons (de_fz (de_var 11)) (da_cons (de_me m_join PySem.F.plainAttrs_str PySem.F.slot_str_join PySem.F.type_str_join de_str (da_cons (de_callB (c_sorted rfl hu) (by rfl) T.z_sorted (by decide +kernel) (da_cons (de_var 12) da_nil)) da_nil)) da_nil))) (de_tup (da_cons (de_fz (de_var 10)) (da_cons (de_fz (de_var 8)) da_nil))))))) PassesOwn.never))) PassesOwn.never)
    (ds_one (ds_ret2 6 (de_fz (de_bin o_add (de_var 4) (de_var 5))))))))
theorem ok_require_machine (T : Txt P w K mg base) : FnG P w K mg base 5 T.f_require_machine T.d_require_machine ["value"] (spP ⟨K, P, w⟩ 1 m_require_machine) :=
  fn_pure T.F_require_machine sc_require_machine fun cdv A outer s H E hg0 hr => by
    have nd := sc_require_machine.nd
    have hu := room_hu hr
    have hu1 := room_hu1 hr
    exact (ds_one (ds_if (dt_not (dt_val (de_cP 1 m_is_machine hg0 (ok_is_machine T) (hr.mono (by decide)) T.g_is_machine T.F_is_machine.kp T.b_is_machine (da_cons (de_fz (de_var 0)) da_nil)))) (ds_one ds_never) ds_nil))
theorem ok__law_even_machine (T : Txt P w K mg base) : FnG P w K mg base 5 T.f__law_even_machine T.d__law_even_machine ["dice", "reads", "sends", "most"] (spR2 ⟨K, P, w⟩ 4 m__law_even_machine) :=
  fn_even T.F__law_even_machine sc__law_even_machine (by decide) (by decide) fun cdv A outer s H E hg0 hr => by
    have nd := sc__law_even_machine.nd
    have hu := room_hu hr
    have hu1 := room_hu1 hr
    exact pss_even 4 4 m__law_unit_machine m__law_both nd hg0 (ok__law_unit_machine T) (hr.mono (by decide)) T.g__law_unit_machine T.F__law_unit_machine.kp T.b__law_unit_machine (da_cons (de_var 0) (da_cons (de_fz (de_var 1)) (da_cons (de_fz (de_var 2)) (da_cons (de_fz (de_var 3)) da_nil)))) (PW.pt (dt_and (dt_cmp (o_nex hu) (de_var 1) de_str (nomark _)) (dt_and1 (dt_cmp (o_eqx hu) (de_cR 2 m__law_roll hg0 (ok__law_roll T) (hr.mono (by decide)) T.g__law_roll T.F__law_roll.kp T.b__law_roll (da_cons (de_var 0) (da_cons de_int da_nil))) de_int (nomark _))))) (ok__law_both T) (hr.mono (by decide)) T.g__law_both T.F__law_both.kp T.b__law_both (de_cR2z 4 m__law_unit_machine hg0 (ok__law_unit_machine T) (hr.mono (by decide)) T.g__law_unit_machine T.F__law_unit_machine.kp T.b__law_unit_machine (da_cons (de_var 0) (da_cons (de_fz (de_var 1)) (da_cons (de_fz (de_var 2)) (da_cons (de_callB (c_min rfl) (by rfl) T.z_min (by decide +kernel) (da_cons (de_var 3) (da_cons de_int da_nil))) da_nil)))))
theorem ok_reads_of (T : Txt P w K mg base) : FnG P w K mg base 6 T.f_reads_of T.d_reads_of ["machine"] (spP ⟨K, P, w⟩ 1 m_reads_of) :=
  fn_pure T.F_reads_of sc_reads_of fun cdv A outer s H E hg0 hr => by
    have nd := sc_reads_of.nd
    have hu := room_hu hr
    have hu1 := room_hu1 hr
    exact (ds_cons (ds_expr (de_cP 1 m_require_machine hg0 (ok_require_machine T) (hr.mono (by decide)) T.g_require_machine T.F_require_machine.kp T.b_require_machine (da_cons (de_fz (de_var 0)) da_nil)))
    (ds_one (ds_ret (de_cP 1 m_reads_in hg0 (ok_reads_in T) (hr.mono (by decide)) T.g_reads_in T.F_reads_in.kp T.b_reads_in (da_cons (de_fz (de_var 0)) da_nil)))))
theorem ok_sends_of (T : Txt P w K mg base) : FnG P w K mg base 6 T.f_sends_of T.d_sends_of ["machine"] (spP ⟨K, P, w⟩ 1 m_sends_of) :=
  fn_pure T.F_sends_of sc_sends_of fun cdv A outer s H E hg0 hr => by
    have nd := sc_sends_of.nd
    have hu := room_hu hr
    have hu1 := room_hu1 hr
    exact (ds_cons (ds_expr (de_cP 1 m_require_machine hg0 (ok_require_machine T) (hr.mono (by decide)) T.g_require_machine T.F_require_machine.kp T.b_require_machine (da_cons (de_fz (de_var 0)) da_nil)))
    (ds_one (ds_ret (de_cP 1 m_sends_in hg0 (ok_sends_in T) (hr.mono (by decide)) T.g_sends_in T.F_sends_in.kp T.b_sends_in (da_cons (de_fz (de_var 0)) da_nil)))))
theorem ok_step_of (T : Txt P w K mg base) : FnG P w K mg base 6 T.f_step_of T.d_step_of ["machine", "place", "letter"] (spP ⟨K, P, w⟩ 3 m_step_of) :=
  fn_pure T.F_step_of sc_step_of fun cdv A outer s H E hg0 hr => by
    have nd := sc_step_of.nd
    have hu := room_hu hr
    have hu1 := room_hu1 hr
    exact (ds_cons (ds_expr (de_cP 1 m_require_machine hg0 (ok_require_machine T) (hr.mono (by decide)) T.g_require_machine T.F_require_machine.kp T.b_require_machine (da_cons (de_fz (de_var 0)) da_nil)))
    (ds_cons (ds_expr (de_cP 3 m_require_number hg0 (ok_require_number T) (hr.mono (by decide)) T.g_require_number T.F_require_number.kp T.b_require_number (da_cons (de_fz (de_var 1)) (da_cons de_int (da_cons (de_bin o_sub (de_ix (o_ix hu) (de_var 0) de_int) de_int) da_nil)))))
    (ds_cons (ds_expr (de_cP 2 m_require_read hg0 (ok_require_read T) (hr.mono (by decide)) T.g_require_read T.F_require_read.kp T.b_require_read (da_cons (de_fz (de_var 0)) (da_cons (de_fz (de_var 2)) da_nil))))
    (ds_one (ds_ret (de_ix (o_ix hu) (de_ix (o_ix hu) (de_var 0) de_int) (de_tup (da_cons (de_fz (de_var 1)) (da_cons (de_fz (de_var 2)) da_nil)))))))))
theorem ok_walk (T : Txt P w K mg base) : FnG P w K mg base 6 T.f_walk T.d_walk ["machine", "place", "row"] (spP ⟨K, P, w⟩ 3 m_walk) :=
  fn_pure T.F_walk sc_walk fun cdv A outer s H E hg0 hr => by
    have nd := sc_walk.nd
    have hu := room_hu hr
    have hu1 := room_hu1 hr
    exact (ds_cons (ds_expr (de_cP 1 m_require_machine hg0 (ok_require_machine T) (hr.mono (by decide)) T.g_require_machine T.F_require_machine.kp T.b_require_machine (da_cons (de_fz (de_var 0)) da_nil)))
    (ds_cons (ds_expr (de_cP 3 m_require_number hg0 (ok_require_number T) (hr.mono (by decide)) T.g_require_number T.F_require_number.kp T.b_require_number (da_cons (de_fz (de_var 1)) (da_cons de_int (da_cons (de_bin o_sub (de_ix (o_ix hu) (de_var 0) de_int) de_int) da_nil)))))
    (ds_cons (ds_expr (de_cP 2 m_require_read_row hg0 (ok_require_read_row T) (hr.mono (by decide)) T.g_require_read_row T.F_require_read_row.kp T.b_require_read_row (da_cons (de_fz (de_var 0)) (da_cons (de_fz (de_var 2)) da_nil))))
    (ds_one (ds_ret (de_cP 3 m_walked hg0 (ok_walked T) (hr.mono (by decide)) T.g_walked T.F_walked.kp T.b_walked (da_cons (de_fz (de_var 0)) (da_cons (de_fz (de_var 1)) (da_cons (de_fz (de_var 2)) da_nil)))))))))
theorem ok_without (T : Txt P w K mg base) : FnG P w K mg base 6 T.f_without T.d_without ["machine", "letters"] (spP ⟨K, P, w⟩ 2 m_without) :=
  fn_pure T.F_without sc_without fun cdv A outer s H E hg0 hr => by
    have nd := sc_without.nd
    have hu := room_hu hr
    have hu1 := room_hu1 hr
    exact (ds_cons (ds_expr (de_cP 1 m_require_machine hg0 (ok_require_machine T) (hr.mono (by decide)) T.g_require_machine T.F_require_machine.kp T.b_require_machine (da_cons (de_fz (de_var 0)) da_nil)))
    (ds_cons (ds_expr (de_cP 1 m_require_row hg0 (ok_require_row T) (hr.mono (by decide)) T.g_require_row T.F_require_row.kp T.b_require_row (da_cons (de_fz (de_var 1)) da_nil)))
    (ds_cons (ds_set 2 nd (de_dnew true))
    (ds_cons (ds_for rfl (di_any (de_fz (de_callB (c_sorted rfl hu) (by rfl) T.z_sorted (by decide +kernel) (da_cons (de_ix (o_ix hu) (de_var 0) de_int) da_nil)))) (dg_name 3 nd)
    (ds_cons (ds_asg (de_ix (o_ix hu) (de_ix (o_ix hu) (de_var 0) de_int) (de_var 3)) (dg_tup rfl (dgs_cons (dg_name 4 nd) (dgs_cons (dg_name 5 nd) dgs_nil))))
    (ds_one (ds_item 2 (o_set hu1) (de_tup (da_cons (de_fz (de_var 4)) (da_cons (de_me m_join PySem.F.plainAttrs_str PySem.F.slot_str_join PySem.F.type_str_join de_str (da_cons (de_lc (own := [("letter", 6)]) rfl nd (di_any (de_fz (de_var 5))) (by exact blkOk_by (N := ["machine", "letters", "steps", "key", "goal", "mail", "letter"]) (sc := defScope s_without) (by decide +kernel)) (fun _ _ _ _ _ => (dg_name 6 nd)) (fun _ _ _ _ _ => (dts_one (dt_cmp (o_nin hu) (de_var 6) (de_var 1) (by rfl)))) (fun _ _ _ _ _ => (de_fz (de_var 6)))) da_nil)) da_nil))) (de_fz (de_var 3))))) PassesOwn.never)
    (ds_one (ds_ret (de_tup (da_cons (de_ix (o_ix hu) (de_var 0) de_int) (da_cons (de_fz (de_var 2)) da_nil)))))))))
theorem ok__law_any_machine (T : Txt P w K mg base) : FnG P w K mg base 6 T.f__law_any_machine T.d__law_any_machine ["dice", "reads", "sends", "most"] (spR ⟨K, P, w⟩ 4 m__law_any_machine) :=
  fn_ref T.F__law_any_machine sc__law_any_machine (by decide) fun cdv A outer s H E hg0 hr => by
    have nd := sc__law_any_machine.nd
    have hu := room_hu hr
    have hu1 := room_hu1 hr
    exact (ds_cons (ds_if (dt_cmp (o_eqx hu) (de_cR 2 m__law_roll hg0 (ok__law_roll T) (hr.mono (by decide)) T.g__law_roll T.F__law_roll.kp T.b__law_roll (da_cons (de_var 0) (da_cons de_int da_nil))) de_int (nomark _)) (ds_cons (ds_par 4 5 rfl nd (de_bin o_add de_int (de_cR 2 m__law_roll hg0 (ok__law_roll T) (hr.mono (by decide)) T.g__law_roll T.F__law_roll.kp T.b__law_roll (da_cons (de_var 0) (da_cons de_int da_nil)))) (de_dnew true))
    (ds_cons (ds_for rfl (di_rng1 (da_cons (de_var 4) da_nil) (by rfl) T.z_range) (dg_name 6 nd)
    (ds_one (ds_for rfl (di_any (de_fz (de_var 1))) (dg_name 7 nd)
    (ds_one (ds_item 5 (o_set hu1) (de_tup (da_cons (de_cR 2 m__law_roll hg0 (ok__law_roll T) (hr.mono (by decide)) T.g__law_roll T.F__law_roll.kp T.b__law_roll (da_cons (de_var 0) (da_cons (de_fz (de_var 4)) da_nil))) (da_cons (de_me m_join PySem.F.plainAttrs_str PySem.F.slot_str_join PySem.F.type_str_join de_str (da_cons (de_callB (c_sorted rfl hu) (by rfl) T.z_sorted (by decide +kernel) (da_cons (de_cR 3 m__law_row_drawn hg0 (ok__law_row_drawn T) (hr.mono (by decide)) T.g__law_row_drawn T.F__law_row_drawn.kp T.b__law_row_drawn (da_cons (de_var 0) (da_cons (de_fz (de_var 3)) (da_cons (de_fz (de_var 2)) da_nil)))) da_nil)) da_nil)) da_nil))) (de_tup (da_cons (de_fz (de_var 6)) (da_cons (de_fz (de_var 7)) da_nil))))) PassesOwn.never)) PassesOwn.never)
    (ds_one (ds_ret (de_tup (da_cons (de_fz (de_var 4)) (da_cons (de_fz (de_var 5)) da_nil))))))) ds_nil)
    (ds_cons (ds_asgR2 4 m__law_even_machine 4 5 rfl nd hg0 (ok__law_even_machine T) (hr.mono (by decide)) T.g__law_even_machine T.F__law_even_machine.kp T.b__law_even_machine (da_cons (de_var 0) (da_cons (de_fz (de_var 1)) (da_cons (de_fz (de_var 2)) (da_cons (de_fz (de_var 3)) da_nil)))))
    (ds_cons (ds_for rfl (di_rng1 (da_cons (de_if (dt_cmp (o_neE hu) (de_var 5) (de_dnew true) (nomark _)) (de_cR 2 m__law_roll hg0 (ok__law_roll T) (hr.mono (by decide)) T.g__law_roll T.F__law_roll.kp T.b__law_roll (da_cons (de_var 0) (da_cons de_int da_nil))) de_int) da_nil) (by rfl) T.z_range) (dg_name 8 nd)
    (ds_cons (ds_set 9 nd (de_cR 2 m__law_pick hg0 (ok__law_pick T) (hr.mono (by decide)) T.g__law_pick T.F__law_pick.kp T.b__law_pick (da_cons (de_var 0) (da_cons (de_fz (de_callB (c_sorted rfl hu) (by rfl) T.z_sorted (by decide +kernel) (da_cons (de_var 5) da_nil))) da_nil))))
    (ds_cons (ds_set 10 nd (de_me m_join PySem.F.plainAttrs_str PySem.F.slot_str_join PySem.F.type_str_join de_str (da_cons (de_callB (c_sorted rfl hu) (by rfl) T.z_sorted (by decide +kernel) (da_cons (de_cR 3 m__law_row_drawn hg0 (ok__law_row_drawn T) (hr.mono (by decide)) T.g__law_row_drawn T.F__law_row_drawn.kp T.b__law_row_drawn (da_cons (de_var 0) (da_cons (de_fz (de_var 3)) (da_cons (de_fz (de_var 2)) da_nil)))) da_nil)) da_nil)))
    (ds_one (ds_item 5 (o_set hu1) (de_tup (da_cons (de_cR 2 m__law_roll hg0 (ok__law_roll T) (hr.mono (by decide)) T.g__law_roll T.F__law_roll.kp T.b__law_roll (da_cons (de_var 0) (da_cons (de_fz (de_var 4)) da_nil))) (da_cons (de_cR 2 m__law_pick hg0 (ok__law_pick T) (hr.mono (by decide)) T.g__law_pick T.F__law_pick.kp T.b__law_pick (da_cons (de_var 0) (da_cons (de_fz (de_lst (da_cons (de_ix (o_ix hu) (de_ix (o_ix hu) (de_var 5) (de_var 9)) de_int) (da_cons (de_fz (de_var 10)) da_nil)))) da_nil))) da_nil))) (de_fz (de_var 9)))))) PassesOwn.never)
    (ds_one (ds_ret (de_tup (da_cons (de_fz (de_var 4)) (da_cons (de_fz (de_var 5)) da_nil))))))))
theorem ok__law_machine_right (T : Txt P w K mg base) : FnG P w K mg base 7 T.f__law_machine_right T.d__law_machine_right ["dice", "machine"] (spR ⟨K, P, w⟩ 2 m__law_machine_right) :=
  fn_ref T.F__law_machine_right sc__law_machine_right (by decide) fun cdv A outer s H E hg0 hr => by
    have nd := sc__law_machine_right.nd
    have hu := room_hu hr
    have hu1 := room_hu1 hr
    exact (ds_cons (ds_par 2 3 rfl nd (de_cP 1 m__law_reads hg0 (ok__law_reads T) (hr.mono (by decide)) T.g__law_reads T.F__law_reads.kp T.b__law_reads (da_cons (de_fz (de_var 1)) da_nil)) (de_callB (c_repr hg0 hu T.sysm) (by rfl) T.z_repr (by decide +kernel) (da_cons (de_var 1) da_nil)))
    (ds_cons (ds_if (PW.pt (dt_or (dt_cmp o_isn (de_cP 1 m_is_machine hg0 (ok_is_machine T) (hr.mono (by decide)) T.g_is_machine T.F_is_machine.kp T.b_is_machine (da_cons (de_fz (de_var 1)) da_nil)) de_bl (nomark _)) (dt_or (dt_cmp (o_nex hu) (de_cP 1 m_reads_of hg0 (ok_reads_of T) (hr.mono (by decide)) T.g_reads_of T.F_reads_of.kp T.b_reads_of (da_cons (de_fz (de_var 1)) da_nil)) (de_var 2) (nomark _)) (dt_or1 (dt_cmp (o_nex hu) (de_cP 1 m_sends_of hg0 (ok_sends_of T) (hr.mono (by decide)) T.g_sends_of T.F_sends_of.kp T.b_sends_of (da_cons (de_fz (de_var 1)) da_nil)) (de_cP 1 m__law_sends hg0 (ok__law_sends T) (hr.mono (by decide)) T.g__law_sends T.F__law_sends.kp T.b__law_sends (da_cons (de_fz (de_var 1)) da_nil)) (nomark _)))))) (ds_one (ds_ret de_bl)) ds_nil)
    (ds_cons (ds_for rfl (di_rng1 (da_cons de_int da_nil) (by rfl) T.z_range) (dg_name 4 nd)
    (ds_cons (ds_par 5 6 rfl nd (de_cR 2 m__law_roll hg0 (ok__law_roll T) (hr.mono (by decide)) T.g__law_roll T.F__law_roll.kp T.b__law_roll (da_cons (de_var 0) (da_cons (de_ix (o_ix hu) (de_var 1) de_int) da_nil))) (de_cR 3 m__law_row_drawn hg0 (ok__law_row_drawn T) (hr.mono (by decide)) T.g__law_row_drawn T.F__law_row_drawn.kp T.b__law_row_drawn (da_cons (de_var 0) (da_cons de_int (da_cons (de_fz (de_var 2)) da_nil)))))
    (ds_cons (ds_if (dt_cmp (o_nex hu) (de_callB (c_repr hg0 hu T.sysm) (by rfl) T.z_repr (by decide +kernel) (da_cons (de_cP 3 m_walk hg0 (ok_walk T) (hr.mono (by decide)) T.g_walk T.F_walk.kp T.b_walk (da_cons (de_fz (de_var 1)) (da_cons (de_fz (de_var 5)) (da_cons (de_fz (de_var 6)) da_nil)))) da_nil)) (de_callB (c_repr hg0 hu T.sysm) (by rfl) T.z_repr (by decide +kernel) (da_cons (de_cP 3 m__law_walked hg0 (ok__law_walked T) (hr.mono (by decide)) T.g__law_walked T.F__law_walked.kp T.b__law_walked (da_cons (de_fz (de_var 1)) (da_cons (de_fz (de_var 5)) (da_cons (de_fz (de_var 6)) da_nil)))) da_nil)) (nomark _)) (ds_one (ds_ret de_bl)) ds_nil)
    (ds_cons (ds_set 7 nd (de_cR 2 m__law_roll hg0 (ok__law_roll T) (hr.mono (by decide)) T.g__law_roll T.F__law_roll.kp T.b__law_roll (da_cons (de_var 0) (da_cons (de_fz (de_bin o_add (de_callB c_lenS (by rfl) T.z_len (by decide +kernel) (da_cons (de_var 6) da_nil)) de_int)) da_nil))))
    (ds_cons (ds_set 8 nd (de_cP 3 m_walk hg0 (ok_walk T) (hr.mono (by decide)) T.g_walk T.F_walk.kp T.b_walk (da_cons (de_fz (de_var 1)) (da_cons (de_fz (de_var 5)) (da_cons (de_fz (de_slc (de_var 6) do_none (do_some (de_var 7)))) da_nil)))))
    (ds_cons (ds_set 9 nd (de_cP 3 m_walk hg0 (ok_walk T) (hr.mono (by decide)) T.g_walk T.F_walk.kp T.b_walk (da_cons (de_fz (de_var 1)) (da_cons (de_ix (o_ix hu) (de_var 8) de_int) (da_cons (de_fz (de_slc (de_var 6) (do_some (de_var 7)) do_none)) da_nil)))))
    (ds_cons (ds_if (dt_cmp (o_nex hu) (de_tup (da_cons (de_ix (o_ix hu) (de_var 9) de_int) (da_cons (de_cP 2 m__law_added hg0 (ok__law_added T) (hr.mono (by decide)) T.g__law_added T.F__law_added.kp T.b__law_added (da_cons (de_ix (o_ix hu) (de_var 8) de_int) (da_cons (de_ix (o_ix hu) (de_var 9) de_int) da_nil))) da_nil))) (de_cP 3 m_walk hg0 (ok_walk T) (hr.mono (by decide)) T.g_walk T.F_walk.kp T.b_walk (da_cons (de_fz (de_var 1)) (da_cons (de_fz (de_var 5)) (da_cons (de_fz (de_var 6)) da_nil)))) (nomark _)) (ds_one (ds_ret de_bl)) ds_nil)
    (ds_one (ds_if (dt_cmp (o_nex hu) (de_var 2) de_str (nomark _)) (ds_cons (ds_set 10 nd (de_cR 2 m__law_pick hg0 (ok__law_pick T) (hr.mono (by decide)) T.g__law_pick T.F__law_pick.kp T.b__law_pick (da_cons (de_var 0) (da_cons (de_fz (de_var 2)) da_nil))))
    (ds_one (ds_if (dt_cmp (o_nex hu) (de_callB (c_repr hg0 hu T.sysm) (by rfl) T.z_repr (by decide +kernel) (da_cons (de_cP 3 m_step_of hg0 (ok_step_of T) (hr.mono (by decide)) T.g_step_of T.F_step_of.kp T.b_step_of (da_cons (de_fz (de_var 1)) (da_cons (de_fz (de_var 5)) (da_cons (de_fz (de_var 10)) da_nil)))) da_nil)) (de_callB (c_repr hg0 hu T.sysm) (by rfl) T.z_repr (by decide +kernel) (da_cons (de_ix (o_ix hu) (de_ix (o_ix hu) (de_var 1) de_int) (de_tup (da_cons (de_fz (de_var 5)) (da_cons (de_fz (de_var 10)) da_nil)))) da_nil)) (nomark _)) (ds_one (ds_ret de_bl)) ds_nil))) ds_nil)))))))) PassesOwn.never)
    (ds_cons (ds_set 11 nd (de_cR 3 m__law_row_drawn hg0 (ok__law_row_drawn T) (hr.mono (by decide)) T.g__law_row_drawn T.F__law_row_drawn.kp T.b__law_row_drawn (da_cons (de_var 0) (da_cons de_int (da_cons de_str da_nil)))))
    (ds_cons (ds_set 12 nd (de_cP 2 m_without hg0 (ok_without T) (hr.mono (by decide)) T.g_without T.F_without.kp T.b_without (da_cons (de_fz (de_var 1)) (da_cons (de_fz (de_var 11)) da_nil))))
    (ds_cons (ds_set 13 nd (de_dnew true))
    (ds_cons (ds_for rfl (di_any (de_fz (de_callB (c_sorted rfl hu) (by rfl) T.z_sorted (by decide +kernel) (da_cons (de_ix (o_ix hu) (de_var 1) de_int) da_nil)))) (dg_name 14 nd)
    (ds_cons (ds_asg (de_ix (o_ix hu) (de_ix (o_ix hu) (de_var 1) de_int) (de_var 14)) (dg_tup rfl (dgs_cons (dg_name 15 nd) (dgs_cons (dg_name 16 nd) dgs_nil))))
    (ds_one (ds_item 13 (o_set hu1) (de_tup (da_cons (de_fz (de_var 15)) (da_cons (de_me m_join PySem.F.plainAttrs_str PySem.F.slot_str_join PySem.F.type_str_join de_str (da_cons (de_lc (own := [("one", 17)]) rfl nd (di_any (de_fz (de_var 16))) (by exact blkOk_by (N := ["dice", "machine", "letters", "kept", "turn", "place", "row", "at", "first", "last", "letter", "some", "bare", "due", "key", "goal", "mail", "one"]) (sc := defScope s__law_machine_right) (by decide +kernel)) (fun _ _ _ _ _ => (dg_name 17 nd)) (fun _ _ _ _ _ => (dts_one (dt_cmp (o_nin hu) (de_var 17) (de_var 11) (by rfl)))) (fun _ _ _ _ _ => (de_fz (de_var 17)))) da_nil)) da_nil))) (de_fz (de_var 14))))) PassesOwn.never)
    (ds_one (ds_ret (de_and (de_cmp (o_eqx hu) (de_callB (c_repr hg0 hu T.sysm) (by rfl) T.z_repr (by decide +kernel) (da_cons (de_var 12) da_nil)) (de_callB (c_repr hg0 hu T.sysm) (by rfl) T.z_repr (by decide +kernel) (da_cons (de_tup (da_cons (de_ix (o_ix hu) (de_var 1) de_int) (da_cons (de_fz (de_var 13)) da_nil))) da_nil)) (nomark _)) (de_one (de_cmp (o_eqx hu) (de_callB (c_repr hg0 hu T.sysm) (by rfl) T.z_repr (by decide +kernel) (da_cons (de_var 1) da_nil)) (de_var 3) (nomark _)))))))))))))
theorem ok_law (T : Txt P w K mg base) : FnG P w K mg base 8 T.f_law T.d_law ["script"] (spP ⟨K, P, w⟩ 1 m_law) :=
  fn_pure T.F_law sc_law fun cdv A outer s H E hg0 hr => by
    have nd := sc_law.nd
    have hu := room_hu hr
    have hu1 := room_hu1 hr
    exact (ds_cons (ds_for rfl (di_rng1 (da_cons (de_callB (c_max rfl) (by rfl) T.z_max (by decide +kernel) (da_cons de_int (da_cons (de_callB (c_min rfl) (by rfl) T.z_min (by decide +kernel) (da_cons de_int (da_cons (de_callB c_lenS (by rfl) T.z_len (by decide +kernel) (da_cons (de_var 0) da_nil)) da_nil))) da_nil))) da_nil) (by rfl) T.z_range) (dg_name 1 nd)
    (ds_cons (ds_set 2 nd (de_cP 2 m__law_dice hg0 (ok__law_dice T) (hr.mono (by decide)) T.g__law_dice T.F__law_dice.kp T.b__law_dice (da_cons (de_fz (de_var 0)) (da_cons (de_fz (de_var 1)) da_nil))))
    (ds_one (ds_for rfl (di_rng1 (da_cons de_int da_nil) (by rfl) T.z_range) (dg_name 3 nd)
    (ds_cons (ds_set 4 nd (de_cR 2 m__law_pick hg0 (ok__law_pick T) (hr.mono (by decide)) T.g__law_pick T.F__law_pick.kp T.b__law_pick (da_cons (de_var 2) (da_cons (de_fz (de_lst (da_cons de_str (da_cons de_str (da_cons de_str (da_cons de_str (da_cons de_str (da_cons de_str da_nil)))))))) da_nil))))
    (ds_one (ds_if (dt_not (dt_val (de_cR 2 m__law_machine_right hg0 (ok__law_machine_right T) (hr.mono (by decide)) T.g__law_machine_right T.F__law_machine_right.kp T.b__law_machine_right (da_cons (de_var 2) (da_cons (de_cR 4 m__law_any_machine hg0 (ok__law_any_machine T) (hr.mono (by decide)) T.g__law_any_machine T.F__law_any_machine.kp T.b__law_any_machine (da_cons (de_var 2) (da_cons (de_fz (de_var 4)) (da_cons de_str (da_cons de_int da_nil))))) da_nil))))) (ds_one (ds_ret de_bl)) ds_nil))) PassesOwn.never))) PassesOwn.never)
    (ds_cons (ds_set 5 nd (de_callT (c_dict true rfl hu) (by rfl) T.z_dict (by decide +kernel) (da_cons (de_lc (own := [("place", 9)]) rfl nd (di_rng1 (da_cons de_int da_nil) (by rfl) T.z_range) (by exact blkOk_by (N := ["script", "spot", "dice", "turn", "reads", "steps", "wide", "told_v", "flip", "place"]) (sc := defScope s_law) (by decide +kernel)) (fun _ _ _ _ _ => (dg_name 9 nd)) (fun _ _ _ _ _ => dts_nil) (fun _ _ _ _ _ => (de_tup (da_cons (de_tup (da_cons (de_fz (de_var 9)) (da_cons de_str da_nil))) (da_cons (de_tup (da_cons (de_bin o_mod (de_callT c_int (by rfl) T.z_int (by decide +kernel) (da_cons (de_bin o_add (de_var 9) de_int) da_nil)) de_int) (da_cons de_str da_nil))) da_nil))))) da_nil)))
    (ds_cons (ds_item 5 (o_set hu1) (de_tup (da_cons de_int (da_cons (de_fz (de_bin o_add (de_bin o_mul de_str de_int) (de_bin o_mul de_str de_int))) da_nil))) (de_tup (da_cons de_int (da_cons de_str da_nil))))
    (ds_cons (ds_set 6 nd (de_tup (da_cons de_int (da_cons (de_fz (de_var 5)) da_nil))))
    (ds_cons (ds_if (PW.pt (dt_or (dt_cmp o_isn (de_cP 1 m_is_machine hg0 (ok_is_machine T) (hr.mono (by decide)) T.g_is_machine T.F_is_machine.kp T.b_is_machine (da_cons (de_fz (de_var 6)) da_nil)) de_bl (nomark _)) (dt_or1 (dt_cmp (o_nex hu) (de_cP 3 m_walk hg0 (ok_walk T) (hr.mono (by decide)) T.g_walk T.F_walk.kp T.b_walk (da_cons (de_fz (de_var 6)) (da_cons de_int (da_cons (de_fz (de_bin o_mul de_str de_int)) da_nil)))) (de_tup (da_cons de_int (da_cons (de_fz (de_dsp (dp_cons de_str de_int (dp_cons de_str de_int dp_nil)) (by rfl) (by rfl) (by simp) (by decide))) da_nil))) (nomark _))))) (ds_one (ds_ret de_bl)) ds_nil)
    (ds_cons (ds_set 7 nd (de_lst (da_cons (de_cP 1 m_reads_of hg0 (ok_reads_of T) (hr.mono (by decide)) T.g_reads_of T.F_reads_of.kp T.b_reads_of (da_cons (de_fz (de_var 6)) da_nil)) (da_cons (de_cP 1 m_sends_of hg0 (ok_sends_of T) (hr.mono (by decide)) T.g_sends_of T.F_sends_of.kp T.b_sends_of (da_cons (de_fz (de_var 6)) da_nil)) (da_cons (de_cP 1 m_sends_of hg0 (ok_sends_of T) (hr.mono (by decide)) T.g_sends_of T.F_sends_of.kp T.b_sends_of (da_cons (de_cP 2 m_without hg0 (ok_without T) (hr.mono (by decide)) T.g_without T.F_without.kp T.b_without (da_cons (de_fz (de_var 6)) (da_cons de_str da_nil))) da_nil)) (da_cons (de_cP 1 m_reads_of hg0 (ok_reads_of T) (hr.mono (by decide)) T.g_reads_of T.F_reads_of.kp T.b_reads_of (da_cons (de_tup (da_cons de_int (da_cons (de_fz (de_dnew false)) da_nil))) da_nil)) (da_cons (de_cP 3 m_walk hg0 (ok_walk T) (hr.mono (by decide)) T.g_walk T.F_walk.kp T.b_walk (da_cons (de_tup (da_cons de_int (da_cons (de_fz (de_dnew false)) da_nil))) (da_cons de_int (da_cons de_str da_nil)))) da_nil)))))))
    (ds_cons (ds_if (dt_cmp (o_nex hu) (de_var 7) (de_lst (da_cons de_str (da_cons de_str (da_cons de_str (da_cons de_str (da_cons (de_tup (da_cons de_int (da_cons (de_fz (de_dnew false)) da_nil))) da_nil)))))) (nomark _)) (ds_one (ds_ret de_bl)) ds_nil)
    (ds_cons (ds_set 8 nd (de_tup (da_cons de_int (da_cons (de_fz (de_dspT hu (dpt_cons (de_tup (da_cons de_int (da_cons de_str da_nil))) (de_tup (da_cons de_int (da_cons de_str da_nil))) (dpt_cons (de_tup (da_cons de_int (da_cons de_str da_nil))) (de_tup (da_cons de_int (da_cons de_str da_nil))) dpt_nil)) (by rfl) (by rfl) (by simp) (by decide))) da_nil))))
    (ds_one (ds_ret (de_cmp (o_eqx hu) (de_lst (da_cons (de_cP 3 m_walk hg0 (ok_walk T) (hr.mono (by decide)) T.g_walk T.F_walk.kp T.b_walk (da_cons (de_fz (de_var 8)) (da_cons de_int (da_cons de_str da_nil)))) (da_cons (de_cP 3 m_step_of hg0 (ok_step_of T) (hr.mono (by decide)) T.g_step_of T.F_step_of.kp T.b_step_of (da_cons (de_fz (de_var 8)) (da_cons de_int (da_cons de_str da_nil)))) (da_cons (de_cP 3 m_walk hg0 (ok_walk T) (hr.mono (by decide)) T.g_walk T.F_walk.kp T.b_walk (da_cons (de_fz (de_var 8)) (da_cons de_int (da_cons de_str da_nil)))) da_nil)))) (de_lst (da_cons (de_tup (da_cons de_int (da_cons (de_fz (de_dsp (dp_cons de_str de_int dp_nil) (by rfl) (by rfl) (by simp) (by decide))) da_nil))) (da_cons (de_tup (da_cons de_int (da_cons de_str da_nil))) (da_cons (de_tup (da_cons de_int (da_cons (de_fz (de_dsp (dp_cons de_str de_int dp_nil) (by rfl) (by rfl) (by simp) (by decide))) da_nil))) da_nil)))) (nomark _))))))))))))
end
end LawT

/-! printed by sel.py: plain lemmas that a law shares with k01. -/
namespace KA
open DL L2 PySem PySem.Spec PyProof.Rows LawT
abbrev C := List (Str × Int)
def kvC (c : C) : List (Key × D) := c.map fun p => (.inr p.1, .int p.2)
def dC (c : C) : D := .dK (kvC c)
def keys (c : C) : List Str := c.map (·.1)
def L : List Str := ["a", "b", "c", "d", "e", "f", "g", "h", "i", "j", "k", "l"]
theorem L_nd : L.Nodup := by decide +kernel
theorem L_le : L.Pairwise fun a b => leS a b = true := by decide +kernel
def val (c : C) (k : Str) : Int := ((c.find? fun p => decide (p.1 = k)).map (·.2)).getD 0
def canon (f : Str → Int) : C := (L.filter fun k => decide (f k ≠ 0)).map fun k => (k, f k)
structure Ok (c : C) : Prop where
  nd : (keys c).Nodup
  sub : ∀ k ∈ keys c, k ∈ L
/-- counts, as the text has them -/
structure Good (c : C) : Prop extends Ok c where
  pos : ∀ p ∈ c, 0 < p.2 ∧ p.2 < 10 ^ 60
theorem sub_len {ks : List Str} (nd : ks.Nodup) (sub : ∀ k ∈ ks, k ∈ L) : ks.length ≤ 12 := by
  have p : ks.Perm (L.filter fun k => decide (k ∈ ks)) := (List.perm_ext_iff_of_nodup nd (L_nd.filter _)).mpr fun k => by
    simp only [List.mem_filter, decide_eq_true_eq]
    exact ⟨fun h => ⟨sub k h, h⟩, fun h => h.2⟩
  rw [p.length_eq]
  exact List.length_filter_le _ L
theorem Ok.len {c : C} (h : Ok c) : c.length ≤ 12 := by
  have := sub_len h.nd h.sub
  simpa [keys] using this
theorem val_nil (k : Str) : val [] k = 0 := rfl
theorem val_cons (p : Str × Int) (c : C) (k : Str) : val (p :: c) k = if p.1 = k then p.2 else val c k := by
  unfold val
  rw [List.find?_cons]
  by_cases h : p.1 = k
  · rw [decide_eq_true h, if_pos h]
    rfl
  · rw [decide_eq_false h, if_neg h]
theorem val_out {c : C} {k : Str} (h : k ∉ keys c) : val c k = 0 := by
  induction c with
  | nil => rfl
  | cons p c ih =>
    simp only [keys, List.map_cons, List.mem_cons, not_or] at h
    rw [val_cons, if_neg fun e => h.1 e.symm]
    exact ih h.2
theorem val_in {c : C} (nd : (keys c).Nodup) {p : Str × Int} (h : p ∈ c) : val c p.1 = p.2 := by
  induction c with
  | nil => cases h
  | cons q c ih =>
    simp only [keys, List.map_cons, List.nodup_cons] at nd
    rw [val_cons]
    rcases List.mem_cons.mp h with rfl | h
    · rw [if_pos rfl]
    · rw [if_neg fun (e : q.1 = p.1) => nd.1 (e ▸ List.mem_map_of_mem (f := Prod.fst) h)]
      exact ih nd.2 h
theorem getK_kvC (c : C) (k : Str) : getK (kvC c) (.inr k) = if k ∈ keys c then some (.int (val c k)) else none := by
  induction c with
  | nil => rfl
  | cons p c ih =>
    unfold getK kvC at ih ⊢
    rw [List.map_cons, List.find?_cons]
    by_cases h : p.1 = k
    · rw [decide_eq_true (by rw [h])]
      rw [if_pos (by simp [keys, h]), val_cons, if_pos h]
      rfl
    · rw [decide_eq_false fun z => h (Sum.inr.inj z), ih, val_cons, if_neg h]
      have e : (k ∈ keys (p :: c)) = (k ∈ keys c) := by
        simp only [keys, List.map_cons, List.mem_cons, eq_iff_iff, or_iff_right_iff_imp]
        exact fun z => absurd z.symm h
      simp only [e]
/-- d.get(k, 0) -/
theorem get0 (c : C) (k : Str) : (getK (kvC c) (.inr k)).getD (.int 0) = .int (val c k) := by
  rw [getK_kvC]
  by_cases h : k ∈ keys c
  · rw [if_pos h]
    rfl
  · rw [if_neg h, val_out h]
    rfl
theorem sort_keys {ks : List Str} (nd : ks.Nodup) (sub : ∀ k ∈ ks, k ∈ L) : sortS ks = L.filter fun k => decide (k ∈ ks) := by
  have p : ks.Perm (L.filter fun k => decide (k ∈ ks)) := (List.perm_ext_iff_of_nodup nd (L_nd.filter _)).mpr fun k => by
    simp only [List.mem_filter, decide_eq_true_eq]
    exact ⟨fun h => ⟨sub k h, h⟩, fun h => h.2⟩
  rw [sortS_eq p]
  exact List.mergeSort_of_pairwise (L_le.filter _)
theorem told_eq {c : C} (h : Ok c) : ((sortS (keys c)).filter fun k => decide (val c k ≠ 0)).map (fun k => (k, val c k)) = canon (val c) := by
  rw [sort_keys h.nd h.sub, List.filter_filter]
  unfold canon
  congr 1
  refine List.filter_congr fun k _ => ?_
  by_cases e : k ∈ keys c
  · simp [e]
  · simp [val_out e]
theorem keys_canon (f : Str → Int) : keys (canon f) = L.filter fun k => decide (f k ≠ 0) := by
  unfold keys canon
  rw [List.map_map]
  exact List.map_id _
theorem ok_canon (f : Str → Int) : Ok (canon f) := ⟨by rw [keys_canon]; exact L_nd.filter _, fun k h => by rw [keys_canon] at h; exact (List.mem_filter.mp h).1⟩
theorem val_canon {f : Str → Int} (hf : ∀ k, k ∉ L → f k = 0) (k : Str) : val (canon f) k = f k := by
  by_cases h : k ∈ L ∧ f k ≠ 0
  · have : (k, f k) ∈ canon f := List.mem_map.mpr ⟨k, List.mem_filter.mpr ⟨h.1, by simpa using h.2⟩, rfl⟩
    exact val_in (ok_canon f).nd this
  · have e : f k = 0 := by
      by_cases e : k ∈ L
      · by_cases z : f k = 0
        · exact z
        · exact absurd ⟨e, z⟩ h
      · exact hf k e
    rw [e]
    refine val_out fun z => ?_
    rw [keys_canon] at z
    have := (List.mem_filter.mp z).2
    simp [e] at this
theorem Ok.out {c : C} (h : Ok c) : ∀ k, k ∉ L → val c k = 0 := fun k n => val_out fun z => n (h.sub k z)
theorem canon_congr {f g : Str → Int} (h : ∀ k ∈ L, f k = g k) : canon f = canon g := by
  unfold canon
  rw [List.filter_congr (fun k hk => by rw [h k hk])]
  refine List.map_congr_left fun k hk => ?_
  rw [h k (List.mem_filter.mp hk).1]
/-- put -/
def putC (c : C) (k : Str) (v : Int) : C := if (c.any fun p => decide (p.1 = k)) = true then c.map (fun p => if p.1 = k then (p.1, v) else p) else c ++ [(k, v)]
theorem any_keys (c : C) (k : Str) : (c.any fun p => decide (p.1 = k)) = true ↔ k ∈ keys c := by
  simp only [List.any_eq_true, decide_eq_true_eq, keys, List.mem_map]
theorem kvC_put (c : C) (k : Str) (v : Int) : putD (kvC c) (.inr k) (.int v) = kvC (putC c k v) := by
  have e : ((kvC c).any fun kv => decide (kv.1 = (.inr k : Key))) = c.any fun p => decide (p.1 = k) := by
    unfold kvC
    rw [List.any_map]
    congr 1
    funext p
    exact key_rr p.1 k
  unfold putD putC
  rw [e]
  split
  · unfold kvC
    rw [List.map_map, List.map_map]
    refine List.map_congr_left fun p _ => ?_
    by_cases h : p.1 = k
    · simp [h]
    · have : ¬ (Sum.inr p.1 : Key) = Sum.inr k := fun z => h (Sum.inr.inj z)
      simp [h, this]
  · unfold kvC
    rw [List.map_append]
    rfl
theorem keys_put (c : C) (k : Str) (v : Int) : keys (putC c k v) = if k ∈ keys c then keys c else keys c ++ [k] := by
  unfold putC
  by_cases h : k ∈ keys c
  · rw [if_pos ((any_keys c k).mpr h), if_pos h]
    unfold keys
    rw [List.map_map]
    refine List.map_congr_left fun p _ => ?_
    simp only [Function.comp]
    split <;> rfl
  · rw [if_neg fun z => h ((any_keys c k).mp z), if_neg h]
    unfold keys
    rw [List.map_append]
    rfl
theorem ok_put {c : C} (h : Ok c) {k : Str} (hk : k ∈ L) (v : Int) : Ok (putC c k v) := by
  constructor
  · rw [keys_put]
    split
    · exact h.nd
    · rename_i n
      exact List.nodup_append.mpr ⟨h.nd, by simp, fun a ha b hb e => n (by rw [List.mem_singleton.mp hb] at e; exact e ▸ ha)⟩
  · rw [keys_put]
    split
    · exact h.sub
    · intro x hx
      rcases List.mem_append.mp hx with hx | hx
      · exact h.sub x hx
      · rw [List.mem_singleton.mp hx]
        exact hk
theorem val_append (a b : C) (k : Str) : val (a ++ b) k = if k ∈ keys a then val a k else val b k := by
  induction a with
  | nil => rfl
  | cons p a ih =>
    rw [List.cons_append, val_cons, val_cons, ih]
    by_cases h : p.1 = k
    · simp [h, keys]
    · have h' : ¬ k = p.1 := fun z => h z.symm
      have e : (k ∈ keys (p :: a)) = (k ∈ keys a) := by
        simp only [keys, List.map_cons, List.mem_cons, eq_iff_iff, or_iff_right_iff_imp]
        exact fun z => absurd z h'
      simp only [if_neg h, e]
theorem val_put (c : C) (k : Str) (v : Int) (x : Str) : val (putC c k v) x = if x = k then v else val c x := by
  unfold putC
  by_cases h : k ∈ keys c
  · rw [if_pos ((any_keys c k).mpr h)]
    have key : ∀ c : C, k ∈ keys c → val (c.map fun p => if p.1 = k then (p.1, v) else p) x = if x = k then v else val c x := by
      intro c
      induction c with
      | nil => intro h; cases h
      | cons p c ih =>
        intro h
        rw [List.map_cons, val_cons, val_cons]
        by_cases e : p.1 = k
        · rw [if_pos e]
          by_cases z : x = k
          · rw [if_pos z, if_pos (show p.1 = x by rw [e, z])]
          · rw [if_neg z]
            have ne : ¬ p.1 = x := fun q => z (by rw [← q, e])
            rw [if_neg ne, if_neg ne]
            by_cases h2 : k ∈ keys c
            · rw [ih h2, if_neg z]
            · have : (c.map fun p => if p.1 = k then (p.1, v) else p) = c := by
                conv => rhs; rw [← List.map_id c]
                refine List.map_congr_left fun q hq => ?_
                rw [if_neg fun (z : q.1 = k) => h2 (z ▸ List.mem_map_of_mem (f := Prod.fst) hq)]
                rfl
              rw [this]
        · rw [if_neg e]
          have h2 : k ∈ keys c := by
            simp only [keys, List.map_cons, List.mem_cons] at h
            rcases h with h | h
            · exact absurd h.symm e
            · exact h
          rw [ih h2]
          by_cases z : x = k
          · have ne : ¬ p.1 = x := fun q => e (by rw [q, z])
            rw [if_pos z, if_neg ne, if_pos z]
          · rw [if_neg z, if_neg z]
    exact key c h
  · rw [if_neg fun z => h ((any_keys c k).mp z), val_append, val_cons, val_nil]
    by_cases e : x = k
    · rw [if_neg (show ¬ x ∈ keys c by rw [e]; exact h), if_pos (show (k, v).1 = x from e.symm), if_pos e]
    · rw [if_neg (show ¬ (k, v).1 = x from fun z => e z.symm), if_neg e]
      by_cases n : x ∈ keys c
      · rw [if_pos n]
      · rw [if_neg n, val_out n]
/-- found[k] = found.get(k, 0) + g(k), for k in ks -/
def addC (g : Str → Int) (c : C) (ks : List Str) : C := ks.foldl (fun acc k => putC acc k (val acc k + g k)) c
theorem ok_add {g : Str → Int} : ∀ {ks : List Str} {c : C}, Ok c → (∀ k ∈ ks, k ∈ L) → Ok (addC g c ks)
  | [], _, h, _ => h
  | k :: r, c, h, hs => ok_add (ks := r) (ok_put h (hs k List.mem_cons_self) _) fun x hx => hs x (List.mem_cons_of_mem _ hx)
theorem val_add {g : Str → Int} : ∀ {ks : List Str} {c : C} (x : Str), ks.Nodup → val (addC g c ks) x = if x ∈ ks then val c x + g x else val c x
  | [], _, _, _ => by simp [addC]
  | k :: r, c, x, nd => by
    obtain ⟨n1, n2⟩ := List.nodup_cons.mp nd
    show val (addC g (putC c k (val c k + g k)) r) x = _
    rw [val_add x n2, val_put]
    by_cases e : x = k
    · subst e
      simp [n1]
    · simp [e]
/-- a pure comprehension -/
theorem compL_pure {β : Type} {vs : List Nat} {g : FG} {t : FT} {f : FE} {ρ : EnvD} (enc : β → D) (p : β → Bool) (e : β → D) : ∀ (items : List β), (∀ b ∈ items, ∃ ρ1, g (enc b) ρ = some ρ1 ∧ t ρ1 = some (p b, ρ1) ∧ wipeD ρ1 vs = ρ ∧ (p b = true → f ρ1 = some (.dat (e b), ρ1))) →
    compL vs g t f (items.map enc) ρ = some ((items.filter p).map e, ρ)
  | [], _ => rfl
  | b :: r, h => by
    obtain ⟨ρ1, h1, h2, h3, h4⟩ := h b List.mem_cons_self
    have ih := compL_pure enc p e r fun x hx => h x (List.mem_cons_of_mem _ hx)
    rw [List.map_cons, compL, h1, Option.bind_some, h2, Option.bind_some]
    cases hp : p b with
    | true => simp [h4 hp, h3, ih, hp]
    | false => simp [h3, ih, hp]
theorem lc_pure {β : Type} {vs : List Nat} {fi : FI} {g : FG} {t : FT} {f : FE} {ρ : EnvD} (enc : β → D) (p : β → Bool) (e : β → D) (items : List β) (hi : fi ρ = some (items.map enc, ρ)) (hn : noneAt ρ vs = true) (hl : items.length ≤ sizeLine) (h : ∀ b ∈ items, ∃ ρ1, g (enc b) ρ = some ρ1 ∧ t ρ1 = some (p b, ρ1) ∧ wipeD ρ1 vs = ρ ∧ (p b = true → f ρ1 = some (.dat (e b), ρ1))) :
    lcF vs fi g t f ρ = some (.own (.ml ((items.filter p).map e)), ρ) := by
  unfold lcF
  rw [hi, Option.bind_some]
  have hl' : (items.map enc, ρ).1.length ≤ sizeLine := by simpa using hl
  rw [if_pos ⟨hn, hl'⟩]
  show (compL vs g t f (items.map enc) ρ).bind _ = _
  rw [compL_pure enc p e items h]
  rfl
theorem compA_dict {vs : List Nat} {g : FG} {t : FT} {fk fv : FE} {ρ : EnvD} (p : Str → Bool) (f : Str → Int) : ∀ (ks : List Str) (acc : C), (keys acc ++ ks).Nodup → (∀ k ∈ keys acc ++ ks, k ∈ L) → (∀ k ∈ ks, ∃ ρ1, g (.str k) ρ = some ρ1 ∧ t ρ1 = some (p k, ρ1) ∧ wipeD ρ1 vs = ρ ∧ (p k = true → fk ρ1 = some (.dat (.str k), ρ1) ∧ fv ρ1 = some (.dat (.int (f k)), ρ1))) →
    compA vs g t (DL.stepK fk fv) (ks.map D.str) (kvC acc) ρ = some (kvC (acc ++ (ks.filter p).map fun k => (k, f k)), ρ)
  | [], acc, _, _, _ => by simp [compA]
  | k :: r, acc, nd, sub, h => by
    obtain ⟨ρ1, h1, h2, h3, h4⟩ := h k List.mem_cons_self
    have nk : k ∉ keys acc := fun z => by
      have := (List.nodup_append.mp nd).2.2 k z k List.mem_cons_self
      exact this rfl
    rw [List.map_cons, compA, h1, Option.bind_some, h2, Option.bind_some]
    cases hp : p k with
    | true =>
      obtain ⟨q1, q2⟩ := h4 hp
      have sz : (kvC acc).length < sizeLine := by
        have nd1 := (List.nodup_append.mp nd).1
        have := sub_len nd1 fun x hx => sub x (List.mem_append_left _ hx)
        have e : (kvC acc).length = (keys acc).length := by simp [kvC, keys]
        rw [e, sizeLine_eq]
        omega
      have st : DL.stepK fk fv (kvC acc) ρ1 = some (kvC (acc ++ [(k, f k)]), ρ1) := by
        unfold DL.stepK
        rw [q1, Option.bind_some]
        simp only [q2, Option.bind_some, toKey]
        rw [if_pos sz, kvC_put]
        unfold putC
        rw [if_neg fun z => nk ((any_keys acc k).mp z)]
      rw [if_pos rfl]
      show (DL.stepK fk fv (kvC acc) ρ1).bind _ = _
      rw [st, Option.bind_some]
      show compA vs g t (DL.stepK fk fv) (r.map D.str) (kvC (acc ++ [(k, f k)])) (wipeD ρ1 vs) = _
      have ek : keys (acc ++ [(k, f k)]) = keys acc ++ [k] := by simp [keys]
      rw [h3, compA_dict p f r (acc ++ [(k, f k)]) (by rw [ek, List.append_assoc]; exact nd) (by rw [ek, List.append_assoc]; exact sub) fun x hx => h x (List.mem_cons_of_mem _ hx)]
      simp [hp]
    | false =>
      rw [if_neg Bool.false_ne_true]
      show compA vs g t (DL.stepK fk fv) (r.map D.str) (kvC acc) (wipeD ρ1 vs) = _
      have nd' : (keys acc ++ r).Nodup := nd.sublist (List.Sublist.append_left (List.sublist_cons_self k r) _)
      rw [h3, compA_dict p f r acc nd' (fun x hx => sub x (by rcases List.mem_append.mp hx with z | z; exact List.mem_append_left _ z; exact List.mem_append_right _ (List.mem_cons_of_mem _ z))) fun x hx => h x (List.mem_cons_of_mem _ hx)]
      simp [hp]
theorem dc_pure {vs : List Nat} {fi : FI} {g : FG} {t : FT} {fk fv : FE} {ρ : EnvD} (p : Str → Bool) (f : Str → Int) (ks : List Str) (nd : ks.Nodup) (sub : ∀ k ∈ ks, k ∈ L) (hi : fi ρ = some (ks.map D.str, ρ)) (hn : noneAt ρ vs = true)
    (h : ∀ k ∈ ks, ∃ ρ1, g (.str k) ρ = some ρ1 ∧ t ρ1 = some (p k, ρ1) ∧ wipeD ρ1 vs = ρ ∧ (p k = true → fk ρ1 = some (.dat (.str k), ρ1) ∧ fv ρ1 = some (.dat (.int (f k)), ρ1))) :
    dcF vs fi g t fk fv ρ = some (.own (.mK (kvC ((ks.filter p).map fun k => (k, f k)))), ρ) := by
  unfold dcF
  rw [hi, Option.bind_some, if_pos hn]
  show (compA vs g t (DL.stepK fk fv) (ks.map D.str) (kvC []) ρ).bind _ = _
  rw [compA_dict p f ks [] (by simpa [keys] using nd) (by simpa [keys] using sub) h]
  rfl
/-! ### the small ones -/
theorem items_dC (c : C) : itemsD (dC c) = some ((keys c).map D.str) := by
  simp [itemsD, dC, kvC, keys, keyD, List.map_map, Function.comp_def]
theorem ix_dC {c : C} {k : Str} (h : k ∈ keys c) : ixD (dC c) (.str k) = some (.dat (.int (val c k))) := by
  simp [ixD, dC, toKey, getK_kvC, h]
theorem eq_int (i j : Int) : eqX (.int i) (.int j) = some (decide (i = j)) := by
  simp [eqX, eqN, eqLeaf, D.pd, PyData.depth, PyData.eqv]
  rfl
theorem sort_dC {c : C} (h : Ok c) : sortF [dC c] = some (.own (.ml ((sortS (keys c)).map D.str))) := by
  have l := h.len
  have : (keys c).length ≤ sizeLine := by
    rw [show (keys c).length = c.length by simp [keys], sizeLine_eq]
    omega
  have e : sortF [dC c] = (itemsD (dC c)).bind fun ds => (sortD ds).map fun es => .own (.ml es) := rfl
  rw [e, items_dC, Option.bind_some, sortD_strs _ this]
  rfl
theorem ev_told {c : C} (h : Ok c) : m_told [dC c] = some (.dat (dC (canon (val c)))) := by
  have nd : (sortS (keys c)).Nodup := (sortS_perm _).nodup_iff.mpr h.nd
  have mem : ∀ k, k ∈ sortS (keys c) ↔ k ∈ keys c := fun k => (sortS_perm _).mem_iff
  have hd := dc_pure (vs := [1]) (fi := anyI (fzD [] (callF (consA (varD 0) nilA) sortF))) (g := nameG 1) (t := tstF (bin2 (bin2 (varD 0) (varD 1) ixD) (conD (.int 0)) (asB eqX true))) (fk := fzD [] (varD 1)) (fv := bin2 (varD 0) (varD 1) ixD) (ρ := [some (.dat (dC c)), none])
    (fun k => decide (val c k ≠ 0)) (val c) (sortS (keys c)) nd (fun k hk => h.sub k ((mem k).mp hk)) (by simp [anyI, fzD, callF, consA, varD, nilA, rds, rd, sort_dC h, SV.r, OV.d, itemsD]) rfl (fun k hk => by
      have ix := ix_dC ((mem k).mp hk)
      refine ⟨[some (.dat (dC c)), some (.dat (.str k))], rfl, ?_, rfl, fun _ => ⟨rfl, ?_⟩⟩
      · simp [tstF, bin2, varD, conD, rd, ix, SV.r, asB, eq_int]
      · simp [bin2, varD, rd, ix, SV.r])
  unfold m_told runP b_told
  show ((retF (fzD [] _)) [some (.dat (dC c)), none]).bind _ = _
  rw [told_eq h] at hd
  simp only [retF, fzD, hd, OV.d, Option.bind_some]
  rfl
abbrev LT : Str := "abcdefghijkl"
/-- a leaf: a key, a value of a drawn dict -/
def leafB : D → Bool
  | .non => true
  | .bl _ => true
  | .int _ => true
  | .str x => decide (x.length ≤ sizeLine)
  | .lst _ => true
  | .tup _ => true
  | _ => false
def letB : D → Bool
  | .str k => decide ((k.length : Int) = 1) && strIn k LT
  | _ => false
def whoB : D → Bool
  | .int _ => true
  | _ => false
def posB : D → Bool
  | .int i => decide (0 < i)
  | _ => false
def tstD (k v : D) : Bool := letB k && (whoB v && posB v)
theorem let_L : ∀ k ∈ L, letB (.str k) = true := by decide +kernel
theorem isi_str (d : D) (h : leafB d = true) : isiD "str" d = some (.dat (.bl (tyN d == "str"))) := by
  cases d <;> simp [leafB] at h <;> simp [isiD, isSetD, isiB, tyN]
theorem isi_int (d : D) (h : leafB d = true) : isiD "int" d = some (.dat (.bl (tyN d == "int" || tyN d == "bool"))) := by
  cases d <;> simp [leafB] at h <;> simp [isiD, isSetD, isiB, tyN]
theorem isi_bool (d : D) (h : leafB d = true) : isiD "bool" d = some (.dat (.bl (tyN d == "bool"))) := by
  cases d <;> simp [leafB] at h <;> simp [isiD, isSetD, isiB, tyN]
theorem ev_whole (d : D) (h : leafB d = true) : m_is_whole [d] = some (.dat (.bl (whoB d))) := by
  have e : m_is_whole [d] = ((b_is_whole [some (.dat d)]).bind fun p => match p.1 with
    | .ret z => some z
    | .next => some (.dat .non)
    | _ => none) := rfl
  rw [e]
  simp only [b_is_whole, retF, andV, un1, varD, notV, rd, List.getElem?_cons_zero, Option.bind_some, isi_int d h, isi_bool d h, SV.r]
  cases d <;> simp [leafB] at h <;> simp [tyN, whoB]
theorem ev_letter (d : D) (h : leafB d = true) : m_is_letter [d] = some (.dat (.bl (letB d))) := by
  have e : m_is_letter [d] = ((b_is_letter [some (.dat d)]).bind fun p => match p.1 with
    | .ret z => some z
    | .next => some (.dat .non)
    | _ => none) := rfl
  rw [e]
  simp only [b_is_letter, retF, andV, un1, varD, rd, List.getElem?_cons_zero, Option.bind_some, isi_str d h, SV.r]
  cases d with
  | str k =>
    have hk : k.length ≤ sizeLine := by simpa [leafB] using h
    have hl : lenS [.str k] = some (.dat (.int k.length)) := by
      show lenF [.str k] = _
      simp [lenF, hk]
    simp only [tyN, beq_self_eq_true, if_true, bin2, callF, consA, nilA, varD, conD, rd, rds, List.getElem?_cons_zero, Option.bind_some, hl, SV.r, asB, eq_int, Option.map_some, Bool.false_eq_true, if_false, letB]
    by_cases z : (k.length : Int) = 1
    · simp [z, inD]
    · simp [z]
  | non => simp [tyN, letB]
  | bl b => simp [tyN, letB]
  | int b => simp [tyN, letB]
  | lst b => simp [tyN, letB]
  | tup b => simp [tyN, letB]
  | _ => simp [leafB] at h
theorem lc_map {β : Type} {vs : List Nat} {fi : FI} {g : FG} {f : FE} {ρ : EnvD} (enc : β → D) (e : β → D) (items : List β) (hi : fi ρ = some (items.map enc, ρ)) (hn : noneAt ρ vs = true) (hl : items.length ≤ sizeLine) (h : ∀ b ∈ items, ∃ ρ1, g (enc b) ρ = some ρ1 ∧ wipeD ρ1 vs = ρ ∧ f ρ1 = some (.dat (e b), ρ1)) :
    lcF vs fi g yesT f ρ = some (.own (.ml (items.map e)), ρ) := by
  have := lc_pure (t := yesT) (f := f) enc (fun _ => true) e items hi hn hl fun b hb => by
    obtain ⟨ρ1, h1, h2, h3⟩ := h b hb
    exact ⟨ρ1, h1, rfl, h2, fun _ => h3⟩
  rw [this, List.filter_eq_self.mpr fun _ _ => rfl]
theorem all_bls (bs : List Bool) : allF [.lst (bs.map D.bl)] = some (.dat (.bl (bs.all id))) := by
  simp [allF, blsOf_map]
abbrev FAR : Int := 1000000000000000000000000000000000000000000000000000000000000
/-- what a call gives, from the block's end -/
def fin (p : FlowD × EnvD) : Option SV := match p.1 with
  | .ret z => some z
  | .next => some (.dat .non)
  | _ => none
def shoB : D → Bool
  | .int i => decide (-FAR < i) && decide (i < FAR)
  | _ => false
theorem ev_short (d : D) (h : leafB d = true) : m_is_short [d] = some (.dat (.bl (shoB d))) := by
  have e : m_is_short [d] = (b_is_short [some (.dat d)]).bind fin := rfl
  rw [e]
  simp only [b_is_short, retF, andV, callP, gdP, consA, nilA, fzD, varD, datA, List.getElem?_cons_zero, Option.bind_some, List.length_singleton, if_true, ev_whole d h, SV.r]
  cases d with
  | int i =>
    simp only [whoB, if_true, chain3, un1, conD, varD, rd, negD, ltD, SV.r, List.getElem?_cons_zero, Option.bind_some, shoB]
    by_cases z : -FAR < i
    · simp [z, fin]
    · simp [z, fin]
  | _ => simp [whoB, shoB, fin]
/-- the entries of a dict -/
def entK (kvs : List (Key × D)) : List (D × D) := kvs.map fun kv => (keyD kv.1, kv.2)
theorem ix_entK {kvs : List (Key × D)} (nd : (kvs.map (·.1)).Nodup) : ∀ e ∈ entK kvs, ixD (.dK kvs) e.1 = some (.dat e.2) := by
  intro e he
  obtain ⟨kv, hkv, rfl⟩ := List.mem_map.mp he
  have tk : toKey (keyD kv.1) = some kv.1 := by cases kv.1 <;> rfl
  have ge : ∀ {l : List (Key × D)}, (l.map (·.1)).Nodup → kv ∈ l → getK l kv.1 = some kv.2 := by
    intro l
    induction l with
    | nil => intro _ h; cases h
    | cons q l ih =>
      intro nd h
      rw [List.map_cons, List.nodup_cons] at nd
      unfold getK at ih ⊢
      rw [List.find?_cons]
      rcases List.mem_cons.mp h with rfl | h
      · rw [decide_eq_true rfl]
        rfl
      · rw [decide_eq_false fun (z : q.1 = kv.1) => nd.1 (z ▸ List.mem_map_of_mem (f := Prod.fst) h)]
        exact ih nd.2 h
  have g := ge nd hkv
  cases hk : kv.1 with
  | inl i =>
    rw [hk] at g
    simp [ixD, keyD, toKey, g]
  | inr x =>
    rw [hk] at g
    simp [ixD, keyD, toKey, g]
theorem len_L : ∀ k ∈ L, k.length = 1 := by decide +kernel
/-! ### rows -/
def rowB (x : Str) : Bool := (DL.signs x).all fun s => strIn s LT
theorem ev_letters (x : Str) (hx : (DL.signs x).length ≤ sizeLine) : m_is_letters [.str x] = some (.dat (.bl (rowB x))) := by
  have e : m_is_letters [.str x] = (b_is_letters [some (.dat (.str x)), none]).bind fin := rfl
  have key := lc_map (vs := [1]) (fi := anyI (fzD [] (varD 0))) (g := nameG 1) (f := bin2 (varD 1) (conD (.str LT)) (asB inD false)) (ρ := [some (.dat (.str x)), none]) D.str (fun s => .bl (strIn s LT)) (DL.signs x) rfl rfl hx (fun s hs => ⟨[some (.dat (.str x)), some (.dat (.str s))], rfl, rfl, by simp [bin2, varD, conD, rd, asB, inD, SV.r]⟩)
  have a := all_bls ((DL.signs x).map fun s => strIn s LT)
  rw [List.map_map] at a
  have ty : isiD "str" (.str x) = some (.dat (.bl true)) := rfl
  rw [e]
  simp only [b_is_letters, retF, andV, un1, varD, rd, List.getElem?_cons_zero, Option.bind_some, ty, SV.r, if_true, callF, consA, nilA, key, rds, OV.d]
  rw [show ((DL.signs x).map fun s => D.bl (strIn s LT)) = (DL.signs x).map (D.bl ∘ fun s => strIn s LT) from rfl, a]
  simp [SV.r, List.all_map, Function.comp_def, fin, rowB]
theorem signs_len (x : Str) : (DL.signs x).length = x.length := by simp [DL.signs, PySem.Str.length]
theorem ev_row_in (x : Str) (hx : x.length ≤ 100000) : m_is_row_in [.str x] = some (.dat (.bl (rowB x))) := by
  have hs : x.length ≤ sizeLine := by rw [sizeLine_eq]; omega
  have e : m_is_row_in [.str x] = (b_is_row_in [some (.dat (.str x))]).bind fin := rfl
  have hl : lenS [.str x] = some (.dat (.int x.length)) := by
    show lenF [.str x] = _
    simp [lenF, hs]
  rw [e]
  have c1 : callP (gdP 1 m_is_letters) (consA (fzD [] (varD 0)) nilA) [some (.dat (.str x))] = some (.dat (.bl (rowB x)), [some (.dat (.str x))]) := by
    simp [callP, gdP, consA, nilA, fzD, varD, datA, ev_letters x (by rw [signs_len]; exact hs), SV.r]
  simp only [b_is_row_in, retF, andV, c1, Option.bind_some]
  cases rowB x with
  | false => simp [fin]
  | true =>
    have : (x.length : Int) ≤ 100000 := by omega
    simp [bin2, callF, consA, nilA, varD, conD, rds, rd, hl, leD, SV.r, fin, this]
theorem ev_req_row (x : Str) (hx : x.length ≤ 100000) (hr : rowB x = true) : m_require_row [.str x] = some (.dat .non) := by
  have e : m_require_row [.str x] = (b_require_row [some (.dat (.str x))]).bind fin := rfl
  rw [e]
  simp [b_require_row, ifS, notT, tstF, callP, gdP, consA, nilA, fzD, varD, datA, ev_row_in x hx, hr, SV.r, nextF, fin]
theorem kvC_len {c : C} (h : Ok c) : (kvC c).length < sizeLine := by
  have := h.len
  simp [kvC, sizeLine_eq]
  omega
theorem keys_len {c : C} (h : Ok c) : (keys c).length ≤ sizeLine := by
  have := h.len
  simp [keys, sizeLine_eq]
  omega
theorem loop_add {body : FS} {g : Str → Int} {da db : Option SV} (ks0 : List Str) (hb : ∀ acc k, Ok acc → k ∈ ks0 → body [da, db, some (.own (.mK (kvC acc))), some (.dat (.str k))] = some (.next, [da, db, some (.own (.mK (kvC (putC acc k (val acc k + g k))))), some (.dat (.str k))])) :
    ∀ (ks : List Str) (acc : C) (x : Option SV), (∀ k ∈ ks, k ∈ ks0 ∧ k ∈ L) → Ok acc → ∃ x', loopF [] [3] (nameG 3) body (ks.map D.str) [da, db, some (.own (.mK (kvC acc))), x] = some (.next, [da, db, some (.own (.mK (kvC (addC g acc ks)))), x'])
  | [], acc, x, _, _ => ⟨x, rfl⟩
  | k :: r, acc, x, hk, h => by
    obtain ⟨h1, h2⟩ := hk k List.mem_cons_self
    obtain ⟨x', ih⟩ := loop_add ks0 hb r (putC acc k (val acc k + g k)) (some (.dat (.str k))) (fun y hy => hk y (List.mem_cons_of_mem _ hy)) (ok_put h h2 _)
    refine ⟨x', ?_⟩
    rw [List.map_cons, loopF, if_pos (by simp)]
    show ((some [da, db, some (.own (.mK (kvC acc))), some (.dat (.str k))]).bind fun ρ1 => (body ρ1).bind _) = _
    rw [Option.bind_some, hb acc k h h1, Option.bind_some]
    exact ih
theorem get_own (acc : C) (k : Str) : getM' (.dK (kvC acc)) [.str k, .int 0] = some (.dat (.int (val acc k))) := by
  simp [getM', stayD, getM, toKey, get0]
/-! ### {**a, **b} -/
def putAll (c b : C) : C := b.foldl (fun acc p => putC acc p.1 p.2) c
def both (a b : C) : C := putAll (putAll [] a) b
theorem kvC_all : ∀ (b c : C), mergeD (kvC c) (kvC b) = kvC (putAll c b)
  | [], c => rfl
  | p :: b, c => by
    show mergeD (putD (kvC c) (.inr p.1) (.int p.2)) (kvC b) = _
    rw [kvC_put]
    exact kvC_all b _
theorem ok_all : ∀ (b : C) {c : C}, Ok c → (∀ k ∈ keys b, k ∈ L) → Ok (putAll c b)
  | [], _, h, _ => h
  | p :: b, c, h, hs => ok_all b (ok_put h (hs p.1 (by simp [keys])) _) fun k hk => hs k (by simp only [keys, List.map_cons, List.mem_cons] at hk ⊢; exact .inr hk)
theorem mem_all : ∀ (b c : C) (k : Str), k ∈ keys (putAll c b) ↔ k ∈ keys c ∨ k ∈ keys b
  | [], c, k => by simp [putAll, keys]
  | p :: b, c, k => by
    show k ∈ keys (putAll (putC c p.1 p.2) b) ↔ _
    rw [mem_all b, keys_put]
    have : k ∈ keys (p :: b) ↔ k = p.1 ∨ k ∈ keys b := by simp [keys]
    rw [this]
    split
    · rename_i h
      constructor
      · rintro (x | x)
        · exact .inl x
        · exact .inr (.inr x)
      · rintro (x | x | x)
        · exact .inl x
        · exact .inl (x ▸ h)
        · exact .inr x
    · simp only [List.mem_append, List.mem_singleton]
      constructor
      · rintro ((x | x) | x)
        · exact .inl x
        · exact .inr (.inl x)
        · exact .inr (.inr x)
      · rintro (x | x | x)
        · exact .inl (.inl x)
        · exact .inl (.inr x)
        · exact .inr x
theorem ok_both {a b : C} (ha : Ok a) (hb : Ok b) : Ok (both a b) := ok_all b (ok_all a ⟨List.nodup_nil, fun _ h => nomatch h⟩ ha.sub) hb.sub
theorem mem_both (a b : C) (k : Str) : k ∈ keys (both a b) ↔ k ∈ keys a ∨ k ∈ keys b := by
  unfold both
  rw [mem_all, mem_all]
  simp [keys]
theorem mrg_dC {a b : C} (ha : Ok a) (hb : Ok b) (R : List Nat) (i j : Nat) {ρ : EnvD} (h1 : ρ[i]? = some (some (.dat (dC a)))) (h2 : ρ[j]? = some (some (.dat (dC b)))) : mrgF (fzD R (varD i)) (fzD R (varD j)) ρ = some (.own (.mK (kvC (both a b))), ρ) := by
  have la := ha.len
  have lb := hb.len
  have sz : (kvC a).length + (kvC b).length ≤ sizeLine := by
    simp [kvC, sizeLine_eq]
    omega
  simp only [mrgF, fzD, varD, h1, h2, Option.bind_some, dC]
  rw [if_pos sz, show ([] : List (Key × D)) = kvC [] from rfl, kvC_all, kvC_all]
  rfl
theorem get_dC (c : C) (k : Str) : getM' (dC c) [.str k, .int 0] = some (.dat (.int (val c k))) := get_own c k
theorem ty_dC (c : C) : tyN (dC c) = "dict" := rfl
/-- o.get(k, 0), o in the slot i, k in the slot j -/
theorem me_get {c : C} {k : Str} {i j : Nat} {R : List Nat} {ρ : EnvD} (h1 : ρ[i]? = some (some (.dat (dC c)))) (h2 : ρ[j]? = some (some (.dat (.str k)))) : meF "dict" (varD i) (consA (fzD R (varD j)) (consA (conD (.int 0)) nilA)) getM' ρ = some (.dat (.int (val c k)), ρ) := by
  simp [meF, varD, consA, nilA, fzD, conD, rd, rds, h1, h2, ty_dC, get_dC, SV.r]
theorem ix_at {c : C} {k : Str} {i j : Nat} {ρ : EnvD} (hk : k ∈ keys c) (h1 : ρ[i]? = some (some (.dat (dC c)))) (h2 : ρ[j]? = some (some (.dat (.str k)))) : bin2 (varD i) (varD j) ixD ρ = some (.dat (.int (val c k)), ρ) := by
  simp [bin2, varD, rd, h1, h2, ix_dC hk, SV.r]
/-- told({k: f(k) for k in ks}) -/
theorem told_dc {fi : FI} {g : FG} {t : FT} {fk fv : FE} {ρ : EnvD} {vs : List Nat} (R : List Nat) (p : Str → Bool) (f : Str → Int) (ks : List Str) (nd : ks.Nodup) (sub : ∀ k ∈ ks, k ∈ L) (hi : fi ρ = some (ks.map D.str, ρ)) (hn : noneAt ρ vs = true)
    (h : ∀ k ∈ ks, ∃ ρ1, g (.str k) ρ = some ρ1 ∧ t ρ1 = some (p k, ρ1) ∧ wipeD ρ1 vs = ρ ∧ (p k = true → fk ρ1 = some (.dat (.str k), ρ1) ∧ fv ρ1 = some (.dat (.int (f k)), ρ1))) (w : Str → Int) (hw : ∀ k ∈ L, (if k ∈ ks.filter p then f k else 0) = w k) :
    callP (gdP 1 m_told) (consA (fzD R (dcF vs fi g t fk fv)) nilA) ρ = some (.dat (dC (canon w)), ρ) := by
  have d := dc_pure p f ks nd sub hi hn h
  have ok : Ok ((ks.filter p).map fun k => (k, f k)) := by
    have e : keys ((ks.filter p).map fun k => (k, f k)) = ks.filter p := by
      unfold keys
      rw [List.map_map]
      exact List.map_id _
    exact ⟨by rw [e]; exact nd.filter _, fun k hk => by rw [e] at hk; exact sub k (List.mem_filter.mp hk).1⟩
  have tt := ev_told ok
  have ce : canon (val ((ks.filter p).map fun k => (k, f k))) = canon w := canon_congr fun k hk => by
    rw [← hw k hk]
    by_cases z : k ∈ ks.filter p
    · rw [if_pos z]
      exact val_in ok.nd (p := (k, f k)) (List.mem_map.mpr ⟨k, z, rfl⟩)
    · rw [if_neg z]
      refine val_out fun q => z ?_
      unfold keys at q
      rw [List.map_map] at q
      simpa using q
  rw [ce] at tt
  simp only [callP, gdP, consA, nilA, fzD, d, OV.d, Option.bind_some, datA, List.length_singleton, if_true]
  show ((m_told [dC ((ks.filter p).map fun k => (k, f k))]).bind _) = _
  rw [tt]
  rfl
theorem log_lt {n : Nat} (h : n < 2 ^ 250) : n.log2 < 250 := by
  by_cases z : n = 0
  · rw [z]
    decide
  · exact (Nat.log2_lt z).mpr h
theorem mul_small {i j : Int} (hi : i.natAbs < 2 ^ 250) (hj : j.natAbs < 2 ^ 250) : CMulW i j := by
  have h1 := log_lt hi
  have h2 := log_lt hj
  unfold CMulW
  omega
theorem ev_req_num (n : Int) (h0 : 0 ≤ n) (h : n < FAR) : m_require_number [.int n, .int 0, .non] = some (.dat .non) := by
  have e : m_require_number [.int n, .int 0, .non] = (b_require_number [some (.dat (.int n)), some (.dat (.int 0)), some (.dat .non)]).bind fin := rfl
  have s : m_is_short [.int n] = some (.dat (.bl true)) := by
    rw [ev_short _ rfl]
    have : -FAR < n := by have : FAR > 0 := by decide
                          omega
    simp [shoB, this, h]
  have nl : ¬ n < 0 := by omega
  rw [e]
  simp [b_require_number, ifS, orT, notT, andT, tstF, callP, gdP, consA, nilA, fzD, varD, conD, bin2, rd, datA, s, SV.r, isnD, DL.isNon, ltD, nl, nextF, fin]
theorem ints_of (l : List Int) : intsOf (l.map D.int) = some l := intsOf_map l
abbrev sg (x : Str) : List Str := DL.signs x
theorem one_of {k : Str} (h : k.length = 1) : ∃ c, k = ⟨#[c]⟩ := by
  obtain ⟨⟨l⟩⟩ := k
  match l, h with
  | [c], _ => exact ⟨c, rfl⟩
theorem sg_one {x s : Str} (h : s ∈ sg x) : s.length = 1 := by
  obtain ⟨c, _, rfl⟩ := List.mem_map.mp h
  rfl
theorem L_one {k : Str} (h : k ∈ L) : ∃ c, k = ⟨#[c]⟩ := one_of (len_L k h)
theorem cnt_in (c : Nat) : ∀ l : List Nat, countIn (.str ⟨#[c]⟩) (l.map fun n => PyData.str ⟨#[n]⟩) = (((l.map fun n => (⟨#[n]⟩ : Str)).count ⟨#[c]⟩ : Nat) : Int)
  | [] => rfl
  | n :: r => by
    show (if same (.str ⟨#[n]⟩) (.str ⟨#[c]⟩) then 1 else 0) + countIn (.str ⟨#[c]⟩) (r.map fun n => PyData.str ⟨#[n]⟩) = _
    rw [same_sign, cnt_in c r, List.map_cons, List.count_cons]
    by_cases h : n = c
    · subst h
      simp
      omega
    · have : ¬ (⟨#[n]⟩ : Str) = ⟨#[c]⟩ := fun z => h (by have := congrArg (fun s : Str => s.cps[0]?) z; simpa using this)
      simp [h, this]
theorem count_sg (x : Str) {k : Str} (h : k.length = 1) : Txt.count x k = (((sg x).count k : Nat) : Int) := by
  obtain ⟨c, rfl⟩ := one_of h
  rw [count_is, cnt_in]
  rfl
theorem in_sg (x : Str) {k : Str} (h : k.length = 1) : strIn k x = decide (k ∈ sg x) := by
  obtain ⟨c, rfl⟩ := one_of h
  unfold strIn
  rw [StrLaws.found_one, Bool.eq_iff_iff, decide_eq_true_eq, decide_eq_true_eq]
  constructor
  · intro z
    exact List.mem_map.mpr ⟨c, z, rfl⟩
  · intro z
    obtain ⟨d, h1, h2⟩ := List.mem_map.mp z
    have : d = c := by have := congrArg (fun s : Str => s.cps[0]?) h2; simpa using this
    exact this ▸ h1
theorem sg_LT : sg LT = L := by decide +kernel
theorem rowB_iff (x : Str) : rowB x = true ↔ ∀ s ∈ sg x, s ∈ L := by
  unfold rowB
  rw [List.all_eq_true]
  constructor
  · intro h s hs
    have := h s hs
    rw [in_sg LT (sg_one hs), sg_LT] at this
    exact of_decide_eq_true this
  · intro h s hs
    rw [in_sg LT (sg_one hs), sg_LT]
    exact decide_eq_true (h s hs)
theorem mem_dedup : ∀ (ys l : List Str) (k : Str), k ∈ ys.foldl addS l ↔ k ∈ l ∨ k ∈ ys
  | [], l, k => by simp
  | y :: r, l, k => by
    rw [List.foldl_cons, mem_dedup r]
    unfold addS
    split
    · rename_i h
      constructor
      · rintro (z | z)
        · exact .inl z
        · exact .inr (List.mem_cons_of_mem _ z)
      · rintro (z | z)
        · exact .inl z
        · rcases List.mem_cons.mp z with rfl | z
          · exact .inl h
          · exact .inr z
    · rw [List.mem_append, List.mem_singleton, List.mem_cons, or_assoc]
theorem nd_dedup : ∀ (ys l : List Str), l.Nodup → (ys.foldl addS l).Nodup
  | [], _, h => h
  | _ :: r, _, h => nd_dedup r _ (addS_nodup h)
/-- how often a letter stands in a row -/
def tal (x : Str) (k : Str) : Int := (((sg x).count k : Nat) : Int)
structure Row (x : Str) : Prop where
  few : x.length ≤ 1000
  let' : ∀ s ∈ sg x, s ∈ L
theorem Row.b {x : Str} (h : Row x) : rowB x = true := (rowB_iff x).mpr h.let'
/-- sorted(set(row)) -/
def ks (x : Str) : List Str := sortS (dedupS (sg x))
theorem mem_ks (x k : Str) : k ∈ ks x ↔ k ∈ sg x := by
  unfold ks
  rw [(sortS_perm _).mem_iff]
  unfold dedupS
  rw [mem_dedup]
  simp
theorem nd_ks (x : Str) : (ks x).Nodup := (sortS_perm _).nodup_iff.mpr (nd_dedup _ _ List.nodup_nil)
theorem ks_L {x : Str} (h : Row x) : ks x = L.filter fun k => decide (k ∈ sg x) := by
  have nd : (dedupS (sg x)).Nodup := nd_dedup _ _ List.nodup_nil
  have mem : ∀ k, k ∈ dedupS (sg x) ↔ k ∈ sg x := fun k => by
    unfold dedupS
    rw [mem_dedup]
    simp
  unfold ks
  rw [sort_keys nd fun k hk => h.let' k ((mem k).mp hk)]
  exact List.filter_congr fun k _ => by simp [mem k]
theorem tal_ne (x k : Str) : tal x k ≠ 0 ↔ k ∈ sg x := by
  unfold tal
  rw [← List.count_pos_iff]
  omega
theorem tal_out {x : Str} (h : Row x) : ∀ k, k ∉ L → tal x k = 0 := fun k n => by
  by_cases z : tal x k = 0
  · exact z
  · exact absurd (h.let' k ((tal_ne x k).mp z)) n
theorem ks_canon {x : Str} (h : Row x) : (ks x).map (fun k => (k, tal x k)) = canon (tal x) := by
  rw [ks_L h]
  unfold canon
  congr 1
  refine List.filter_congr fun k _ => ?_
  by_cases z : k ∈ sg x
  · simp [z, (tal_ne x k).mpr z]
  · have : tal x k = 0 := by
      by_cases q : tal x k = 0
      · exact q
      · exact absurd ((tal_ne x k).mp q) z
    simp [z, this]
theorem set_sort {x : Str} (h : Row x) (R : List Nat) (i : Nat) {ρ : EnvD} (h1 : ρ[i]? = some (some (.dat (.str x)))) : anyI (fzD R (callF (consA (callF (consA (varD i) nilA) setS) nilA) sortF)) ρ = some ((ks x).map D.str, ρ) := by
  have few := h.few
  have hs : (DL.signs x).length + 1 < scanBound := by
    rw [signs_len]
    have : 1001 < scanBound := by decide
    omega
  have sz : (dedupS (sg x)).length ≤ sizeLine := by
    have nd : (dedupS (sg x)).Nodup := nd_dedup _ _ List.nodup_nil
    have := sub_len nd fun k hk => h.let' k (by
      unfold dedupS at hk
      rw [mem_dedup] at hk
      simpa using hk)
    rw [sizeLine_eq]
    omega
  have e1 : setS [.str x] = some (.dat (.sS (dedupS (sg x)))) := by
    show (if (DL.signs x).length + 1 < scanBound then _ else _) = _
    rw [if_pos hs]
  have e2 : sortF [.sS (dedupS (sg x))] = some (.own (.ml ((ks x).map D.str))) := by
    show (sortD ((dedupS (sg x)).map .str)).map _ = _
    rw [sortD_strs _ sz]
    rfl
  simp [anyI, fzD, callF, consA, nilA, varD, rds, rd, h1, e1, e2, SV.r, OV.d, itemsD]
theorem cnt_me {x k : Str} (hk : k.length = 1) {i j : Nat} {ρ : EnvD} (h1 : ρ[i]? = some (some (.dat (.str x)))) (h2 : ρ[j]? = some (some (.dat (.str k)))) : meF "str" (varD i) (consA (varD j) nilA) countM ρ = some (.dat (.int (tal x k)), ρ) := by
  simp [meF, varD, consA, nilA, rd, rds, h1, h2, tyN, countM, SV.r, count_sg x hk, tal]
theorem ev_counts_in {x : Str} (h : Row x) : m_counts_in [.str x] = some (.dat (dC (canon (tal x)))) := by
  have e : m_counts_in [.str x] = (b_counts_in [some (.dat (.str x)), none]).bind fin := rfl
  have t := told_dc (vs := [1]) (fi := anyI (fzD [] (callF (consA (callF (consA (varD 0) nilA) setS) nilA) sortF))) (g := nameG 1) (t := yesT) (fk := fzD [] (varD 1)) (fv := meF "str" (varD 0) (consA (varD 1) nilA) countM) (ρ := [some (.dat (.str x)), none]) [] (fun _ => true) (tal x) (ks x) (nd_ks x) (fun k hk => h.let' k ((mem_ks x k).mp hk)) (set_sort h [] 0 rfl) rfl (fun k hk => by
    exact ⟨[some (.dat (.str x)), some (.dat (.str k))], rfl, rfl, rfl, fun _ => ⟨rfl, cnt_me (sg_one ((mem_ks x k).mp hk)) rfl rfl⟩⟩) (tal x) (fun k _ => by
    rw [List.filter_eq_self.mpr fun _ _ => rfl]
    split
    · rfl
    · rename_i z
      rw [mem_ks] at z
      by_cases q : tal x k = 0
      · exact q.symm
      · exact absurd ((tal_ne x k).mp q) z)
  rw [e]
  simp [b_counts_in, retF, t, fin]
/-- pairs of letters and numbers, as a list of tuples -/
def prs (c : C) : List D := c.map fun p => .tup [.str p.1, .int p.2]
theorem pairs_prs : ∀ c : C, pairsK (prs c) = some (kvC c)
  | [] => rfl
  | p :: c => by
    have ih := pairs_prs c
    unfold prs kvC at ih ⊢
    simp [pairsK, toKey, ih]
theorem put_fresh {c : C} {k : Str} {v : Int} (h : k ∉ keys c) : putC c k v = c ++ [(k, v)] := by
  unfold putC
  rw [if_neg fun z => h ((any_keys c k).mp z)]
theorem all_fresh : ∀ (b c : C), (keys c ++ keys b).Nodup → putAll c b = c ++ b
  | [], c, _ => by simp [putAll]
  | p :: b, c, h => by
    have n : p.1 ∉ keys c := fun z => (List.nodup_append.mp h).2.2 p.1 z p.1 (by simp [keys]) rfl
    show putAll (putC c p.1 p.2) b = _
    rw [put_fresh n, all_fresh b]
    · simp
    · simpa [keys] using h
theorem dict_prs {c : C} (h : Ok c) : dictF false [.lst (prs c)] = some (.own (.mK (kvC c))) := by
  have l := h.len
  have sz : (prs c).length ≤ sizeLine := by
    simp [prs, sizeLine_eq]
    omega
  have m : mergeD ([] : List (Key × D)) (kvC c) = kvC c := by
    have := kvC_all c []
    rw [all_fresh c [] (by simpa [keys] using h.nd)] at this
    exact this
  show (if (prs c).length ≤ sizeLine then _ else _) = _
  rw [if_pos sz, if_neg Bool.false_ne_true, pairs_prs]
  show some (SV.own (.mK (mergeD [] (kvC c)))) = _
  rw [m]
theorem ev_law_counts {x : Str} (h : Row x) : m__law_counts [.str x] = some (.dat (dC (canon (tal x)))) := by
  have e : m__law_counts [.str x] = (b__law_counts [some (.dat (.str x)), none]).bind fin := rfl
  have key := lc_map (vs := [1]) (fi := anyI (fzD [] (callF (consA (callF (consA (varD 0) nilA) setS) nilA) sortF))) (g := nameG 1) (f := tupF (consA (fzD [] (varD 1)) (consA (meF "str" (varD 0) (consA (varD 1) nilA) countM) nilA))) (ρ := [some (.dat (.str x)), none]) D.str (fun k => .tup [.str k, .int (tal x k)]) (ks x) (set_sort h [] 0 rfl) rfl (by
    have := sub_len (nd_ks x) fun k hk => h.let' k ((mem_ks x k).mp hk)
    rw [sizeLine_eq]
    omega) (fun k hk => by
    refine ⟨[some (.dat (.str x)), some (.dat (.str k))], rfl, rfl, ?_⟩
    have m := cnt_me (x := x) (sg_one ((mem_ks x k).mp hk)) (i := 0) (j := 1) (ρ := [some (.dat (.str x)), some (.dat (.str k))]) rfl rfl
    unfold tupF
    rw [consA, fzD, varD]
    simp only [List.getElem?_cons_succ, List.getElem?_cons_zero, Option.bind_some, consA, m, nilA, datA]
    rw [if_pos (by rw [sizeLine_eq]; show 2 ≤ 16777216; decide)])
  have ee : ((ks x).map fun k => D.tup [.str k, .int (tal x k)]) = prs (canon (tal x)) := by
    rw [← ks_canon h]
    unfold prs
    rw [List.map_map]
    rfl
  rw [ee] at key
  have d := dict_prs (ok_canon (tal x))
  rw [e]
  simp only [b__law_counts, retF, fzD, callF, consA, nilA] at key ⊢
  rw [key]
  simp only [Option.bind_some, rds, rd, OV.d, d, SV.r]
  rfl
/-- d has a text, of at most n signs, at most k deep -/
def Sh (d : D) (n k : Nat) : Prop := ∃ p, D.px d = some p ∧ p.showable = true ∧ p.depth ≤ k ∧ p.shown.length ≤ n
theorem Sh.repr {d : D} {n k : Nat} (h : Sh d n k) (hn : n ≤ 16777216) (hk : k < 63) : ∃ s, reprF [d] = some (.dat (.str s)) := by
  obtain ⟨p, h1, h2, h3, h4⟩ := h
  refine ⟨p.shown, ?_⟩
  unfold reprF
  simp only [h1, Option.bind_some]
  rw [if_pos ⟨h2, by omega, by rw [sizeLine_eq]; omega⟩]
theorem sh_int {i : Int} (h : i.natAbs.log2 < 1920) : Sh (.int i) 1921 0 := ⟨.int i, rfl, by simp [PyData.showable, h], Nat.le_refl _, by simpa only [PyData.shown] using int_text_len_1921 h⟩
theorem sh_bl (b : Bool) : Sh (.bl b) 5 0 := ⟨.bool b, rfl, rfl, Nat.le_refl _, by simp only [PyData.shown]; cases b <;> decide +kernel⟩
theorem len_app (a b : Str) : (a ++ b).length = a.length + b.length := strLen_append a b
theorem L_text : ∀ k ∈ L, (reprText k).length ≤ 3 := by decide +kernel
theorem px_kvC : ∀ c : C, D.pxk (kvC c) = some (c.map fun p => (.str p.1, .int p.2))
  | [] => rfl
  | p :: c => by
    have ih := px_kvC c
    unfold kvC at ih ⊢
    simp [D.pxk, D.px, ih, keyP]
theorem kv_show : ∀ c : C, (∀ p ∈ c, p.1 ∈ L ∧ p.2.natAbs.log2 < 1920) → PyData.showableKv (c.map fun p => (PyData.str p.1, PyData.int p.2)) = true ∧ PyData.depthKv (c.map fun p => (PyData.str p.1, PyData.int p.2)) = 0 ∧ ((PyData.shownKv (c.map fun p => (PyData.str p.1, PyData.int p.2))).map (·.length)).sum ≤ 1926 * c.length ∧ (PyData.shownKv (c.map fun p => (PyData.str p.1, PyData.int p.2))).length = c.length
  | [], _ => by simp [PyData.showableKv, PyData.depthKv, PyData.shownKv]
  | p :: c, h => by
    obtain ⟨h1, h2, h3, h4⟩ := kv_show c fun q hq => h q (List.mem_cons_of_mem _ hq)
    obtain ⟨g1, g2⟩ := h p List.mem_cons_self
    have t1 := L_text p.1 g1
    have t2 := int_text_len_1921 g2
    have t3 : (Str.ofString ": ").length = 2 := by decide +kernel
    refine ⟨by simp [PyData.showableKv, PyData.showable, g2, h1], by simp [PyData.depthKv, PyData.depth, h2], ?_, by simp [PyData.shownKv, h4]⟩
    simp only [List.map_cons, PyData.shownKv, List.sum_cons, List.length_cons, PyData.shown, len_app, t3]
    omega
theorem sh_dC {c : C} (h : Ok c) (hv : ∀ p ∈ c, p.2.natAbs.log2 < 1920) : Sh (dC c) 30000 1 := by
  have l := h.len
  obtain ⟨h1, h2, h3, h4⟩ := kv_show c fun p hp => ⟨h.sub p.1 (List.mem_map_of_mem hp), hv p hp⟩
  refine ⟨.dict (c.map fun p => (.str p.1, .int p.2)), by simp [D.px, dC, px_kvC], by simpa only [PyData.showable] using h1, by simp only [PyData.depth, h2]; omega, ?_⟩
  have := dictText_len_le (PyData.shownKv (c.map fun p => (PyData.str p.1, PyData.int p.2)))
  simp only [PyData.shown]
  omega
theorem sh_tup {a b : D} {n m k : Nat} (ha : Sh a n k) (hb : Sh b m k) : Sh (.tup [a, b]) (n + m + 7) (k + 1) := by
  obtain ⟨p, p1, p2, p3, p4⟩ := ha
  obtain ⟨q, q1, q2, q3, q4⟩ := hb
  refine ⟨.tuple [p, q], by simp [D.px, D.pxs, p1, q1], by simp [PyData.showable, PyData.showableAll, p2, q2], by simp only [PyData.depth, PyData.depthAll]; omega, ?_⟩
  have := tupleText_len_le (PyData.shownAll [p, q])
  simp only [PyData.shownAll, List.map_cons, List.map_nil, List.sum_cons, List.sum_nil, List.length_cons, List.length_nil] at this
  simp only [PyData.shown, PyData.shownAll]
  omega
theorem eq_str (s : Str) : eqX (.str s) (.str s) = some true := by
  simp [eqX, eqN, eqLeaf, D.pd, PyData.depth, PyData.eqv]
/-- repr(x) == repr(y), of one thing -/
theorem repr_same {d : D} {n k : Nat} (h : Sh d n k) (hn : n ≤ 16777216) (hk : k < 63) {f g : FE} {ρ : EnvD} (hf : ∃ r, f ρ = some (r, ρ) ∧ rd ρ r = some d) (hg : ∃ r, g ρ = some (r, ρ) ∧ rd ρ r = some d) (neg : Bool) :
    bin2 (callF (consA f nilA) reprF) (callF (consA g nilA) reprF) (asB eqX neg) ρ = some (.dat (.bl (!neg)), ρ) := by
  obtain ⟨s, e⟩ := h.repr hn hk
  obtain ⟨r1, f1, f2⟩ := hf
  obtain ⟨r2, g1, g2⟩ := hg
  have c1 : callF (consA f nilA) reprF ρ = some (.dat (.str s), ρ) := by
    unfold callF consA nilA
    simp only [f1, Option.bind_some, rds, f2, e, SV.r]
  have c2 : callF (consA g nilA) reprF ρ = some (.dat (.str s), ρ) := by
    unfold callF consA nilA
    simp only [g1, Option.bind_some, rds, g2, e, SV.r]
  unfold bin2
  simp only [c1, c2, Option.bind_some, rd, asB, eq_str, Option.map_some, SV.r]
  cases neg <;> rfl
/-- sorted(set(list(one) + list(other))) -/
def allK (a b : C) : List Str := L.filter fun k => decide (k ∈ keys a ∨ k ∈ keys b)
/-- the letters' numbers, where all other letters have none -/
theorem all_canon {a b : C} (f : Str → Int) (hf : ∀ k, k ∉ keys a → k ∉ keys b → f k = 0) : ((allK a b).map fun k => (k, f k)).filter (fun p => decide (p.2 ≠ 0)) = canon f := by
  rw [List.filter_map]
  unfold canon allK
  rw [List.filter_filter]
  congr 1
  refine List.filter_congr fun k _ => ?_
  by_cases z : k ∈ keys a ∨ k ∈ keys b
  · simp [z]
  · have := hf k (fun q => z (.inl q)) fun q => z (.inr q)
    simp [this]
/-- the dice; c counts the rolls -/
def Dice (n : Nat) (x : OV) : Prop := ∃ a b c : Int, x = .ml [.int a, .int b, .int c] ∧ 0 ≤ c ∧ c ≤ n
theorem Dice.mono {n m : Nat} {x : OV} (h : Dice n x) (l : n ≤ m) : Dice m x := by
  obtain ⟨a, b, c, e, h1, h2⟩ := h
  exact ⟨a, b, c, e, h1, by omega⟩
/-- what a call with the dice gives -/
def finR (p : FlowD × EnvD) : Option (SV × OV) := match p.1, p.2[0]? with
  | .ret z, some (some (SV.own x')) => some (z, x')
  | .next, some (some (SV.own x')) => some (.dat .non, x')
  | _, _ => none
theorem mul_ok {i j : Int} (hi : i.natAbs < 2 ^ 250) (hj : j.natAbs < 2 ^ 250) : mulD (.int i) (.int j) = some (.dat (.int (i * j))) := by
  show (if CMulW i j then _ else _) = _
  rw [if_pos (mul_small hi hj)]
theorem div_ok {i j : Int} (h : 0 < j) (hj : j.natAbs < 2 ^ 250) : divD (.int i) (.int j) = some (.dat (.int (i / j))) := by
  have := log_lt hj
  show (if CDivW i j then _ else _) = _
  rw [if_pos ⟨h, by omega⟩]
theorem mod_ok {i j : Int} (h : 0 < j) : modD (.int i) (.int j) = some (.dat (.int (i % j))) := by
  show (if 0 < j then _ else _) = _
  rw [if_pos h]
section
variable {a b c t : Int} {x1 x2 x3 : Option SV}
theorem ix0 {y z w : D} : ixD (.lst [y, z, w]) (.int 0) = some (.dat y) := rfl
theorem ix1 {y z w : D} : ixD (.lst [y, z, w]) (.int 1) = some (.dat z) := rfl
theorem ix2 {y z w : D} : ixD (.lst [y, z, w]) (.int 2) = some (.dat w) := rfl
theorem st0 {y z w v : D} : setO (.ml [y, z, w]) (.int 0) v = some (.ml [v, z, w]) := rfl
theorem st2 {y z w v : D} : setO (.ml [y, z, w]) (.int 2) v = some (.ml [y, z, v]) := rfl
end
theorem ev_roll {n : Nat} {x : OV} (h : Dice n x) {t : Int} (t0 : 0 < t) (t1 : t ≤ 10 ^ 60) (hn : n < 2 ^ 100) : ∃ r x', m__law_roll x [.int t] = some (.dat (.int r), x') ∧ 0 ≤ r ∧ r < t ∧ Dice (n + 1) x' := by
  obtain ⟨a, b, c, rfl, h1, h2⟩ := h
  have e : m__law_roll (.ml [.int a, .int b, .int c]) [.int t] = (b__law_roll [some (.own (.ml [.int a, .int b, .int c])), some (.dat (.int t)), none, none, none]).bind finR := rfl
  have tb : t.natAbs < 2 ^ 250 := by
    have : (10 : Int) ^ 60 < 2 ^ 250 := by decide
    omega
  rw [e]
  by_cases ha : 0 < a
  · refine ⟨a % t, .ml [.int (a / t), .int b, .int c], ?_, Int.emod_nonneg _ (by omega), Int.emod_lt_of_pos _ t0, a / t, b, c, rfl, h1, by omega⟩
    simp [b__law_roll, seqF, ifS, tstF, bin2, varD, conD, rd, OV.d, ix0, gtD, ha, SV.r, setF, callF, consA, nilA, rds, intF, mod_ok t0, putS, itemF, div_ok t0 tb, st0, retF, fzD, finR]
  · have p1 : (0 : Int) < 2305843009213693907 := by decide
    have p2 : (0 : Int) < 2305843009213693921 := by decide
    have o1 := Int.emod_nonneg (b + 49979687 * (c + 1)) (Int.ne_of_gt p1)
    have o2 := Int.emod_lt_of_pos (b + 49979687 * (c + 1)) p1
    generalize ho : (b + 49979687 * (c + 1)) % 2305843009213693907 = one at o1 o2
    have w1 := Int.emod_nonneg (one * one + 101 * (c + 1)) (Int.ne_of_gt p2)
    have w2 := Int.emod_lt_of_pos (one * one + 101 * (c + 1)) p2
    generalize hw : (one * one + 101 * (c + 1)) % 2305843009213693921 = two at w1 w2
    have q100 : (2 : Nat) ^ 100 < 2 ^ 200 := by decide
    have big : (2305843009213693921 : Nat) < 2 ^ 250 := by decide
    have cb : (c + 1).natAbs < 2 ^ 250 := by
      have : (2 : Nat) ^ 100 + 1 < 2 ^ 250 := by decide
      omega
    have m1 : mulD (.int 49979687) (.int (c + 1)) = some (.dat (.int (49979687 * (c + 1)))) := mul_ok (by decide) cb
    have m2 : mulD (.int one) (.int one) = some (.dat (.int (one * one))) := mul_ok (by omega) (by omega)
    have m3 : mulD (.int 101) (.int (c + 1)) = some (.dat (.int (101 * (c + 1)))) := mul_ok (by decide) cb
    have m4 : mulD (.int two) (.int 7368787) = some (.dat (.int (two * 7368787))) := mul_ok (by omega) (by decide)
    have d1 : divD (.int (two * 7368787 + one)) (.int 65536) = some (.dat (.int ((two * 7368787 + one) / 65536))) := div_ok (by decide) (by decide)
    refine ⟨(two * 7368787 + one) / 65536 % t, .ml [.int a, .int b, .int (c + 1)], ?_, Int.emod_nonneg _ (by omega), Int.emod_lt_of_pos _ t0, a, b, c + 1, rfl, by omega, by omega⟩
    simp [b__law_roll, seqF, ifS, tstF, bin2, varD, conD, rd, OV.d, ix0, ix1, ix2, gtD, ha, SV.r, setF, callF, consA, nilA, rds, intF, mod_ok p1, mod_ok p2, mod_ok t0, putS, itemF, st2, retF, fzD, finR, addD, nextF, m1, m2, m3, m4, d1, ho, hw]
/-- roll, called with the dice in the slot 0 -/
theorem c_roll {n : Nat} {x : OV} (h : Dice n x) {t : Int} (t0 : 0 < t) (t1 : t ≤ 10 ^ 60) (hn : n < 2 ^ 100) {R : List Nat} {g : FE} {ρ : List (Option SV)} (hg : g (some (.own x) :: ρ) = some (.dat (.int t), some (.own x) :: ρ)) :
    ∃ r x', callR (gdR 2 m__law_roll) (consA (varD 0) (consA g nilA)) (some (.own x) :: ρ) = some (.dat (.int r), some (.own x') :: ρ) ∧ 0 ≤ r ∧ r < t ∧ Dice (n + 1) x' := by
  obtain ⟨r, x', e, h1, h2, h3⟩ := ev_roll h t0 t1 hn
  refine ⟨r, x', ?_, h1, h2, h3⟩
  have hv : varD 0 (some (.own x) :: ρ) = some (.slot 0, some (.own x) :: ρ) := rfl
  simp only [callR, consA, hv, hg, nilA, Option.bind_some, List.getElem?_cons_zero, datA, gdR, List.length_cons, List.length_nil, if_true, e, SV.r, List.set_cons_zero]
/-- a call with the dice, which its other arguments may have rolled -/
theorem callR_at {F : FR} {n : Nat} {rest : FA} {x y y' : OV} {ρ ρ1 : List (Option SV)} {ds : List D} {z : SV} (h1 : rest (some (.own x) :: ρ) = some (ds.map .dat, some (.own y) :: ρ1)) (hl : ds.length + 1 = n) (h2 : F y ds = some (z, y')) : callR (gdR n F) (consA (varD 0) rest) (some (.own x) :: ρ) = some (z.r, some (.own y') :: ρ1) := by
  have hv : varD 0 (some (.own x) :: ρ) = some (.slot 0, some (.own x) :: ρ) := rfl
  have hd : ∀ l : List D, datA (l.map .dat) = some l := by
    intro l
    induction l with
    | nil => rfl
    | cons d l ih => simp [datA, ih]
  simp only [callR, consA, hv, h1, Option.bind_some, List.getElem?_cons_zero, hd, gdR, hl, if_true, h2, List.set_cons_zero]
theorem cons_at {f : FE} {g : FA} {ρ ρ1 ρ2 : EnvD} {r : RV} {rs : List RV} (h1 : f ρ = some (r, ρ1)) (h2 : g ρ1 = some (rs, ρ2)) : consA f g ρ = some (r :: rs, ρ2) := by
  simp only [consA, h1, h2, Option.bind_some]
theorem ev_pick_list {n : Nat} {x : OV} (h : Dice n x) (hn : n < 2 ^ 100) (ds : List D) (h0 : ds ≠ []) (hl : ds.length ≤ 1000) : ∃ d x', d ∈ ds ∧ m__law_pick x [.lst ds] = some (.dat d, x') ∧ Dice (n + 1) x' := by
  have e : m__law_pick x [.lst ds] = (b__law_pick [some (.own x), some (.dat (.lst ds))]).bind finR := rfl
  have l0 : 0 < ds.length := List.length_pos_iff.mpr h0
  have lf : lenS [.lst ds] = some (.dat (.int ds.length)) := rfl
  have far : (1000 : Int) ≤ 10 ^ 60 := by decide
  obtain ⟨r, x', e1, h1, h2, h3⟩ := c_roll h (t := ds.length) (by omega) (by omega) hn (R := []) (g := callF (consA (varD 1) nilA) lenS) (ρ := [some (.dat (.lst ds))]) (by simp [callF, consA, nilA, varD, rds, rd, lf, SV.r])
  obtain ⟨m, rfl⟩ := Int.eq_ofNat_of_zero_le h1
  have hr : m < ds.length := by omega
  refine ⟨ds[m], x', List.getElem_mem hr, ?_, h3⟩
  have at' : atI ds (m : Int) = some ds[m] := atI_nat (j := m) (List.getElem?_eq_getElem hr)
  have ix : ixD (.lst ds) (.int (m : Int)) = some (.dat ds[m]) := by
    show (atI ds (m : Int)).map _ = _
    rw [at']
    rfl
  rw [e]
  have hv : varD 1 [some (.own x), some (.dat (.lst ds))] = some (.dat (.lst ds), [some (.own x), some (.dat (.lst ds))]) := rfl
  simp [b__law_pick, retF, bin2, hv, e1, rd, ix, SV.r, finR]
theorem ev_pick_str {n : Nat} {x : OV} (h : Dice n x) (hn : n < 2 ^ 100) (s : Str) (h0 : 0 < s.length) (hl : s.length ≤ 1000) : ∃ d x', d ∈ sg s ∧ m__law_pick x [.str s] = some (.dat (.str d), x') ∧ Dice (n + 1) x' := by
  have e : m__law_pick x [.str s] = (b__law_pick [some (.own x), some (.dat (.str s))]).bind finR := rfl
  have sz : s.length ≤ sizeLine := by rw [sizeLine_eq]; omega
  have lf : lenS [.str s] = some (.dat (.int s.length)) := by
    show lenF [.str s] = _
    simp [lenF, sz]
  have far : (1000 : Int) ≤ 10 ^ 60 := by decide
  obtain ⟨r, x', e1, h1, h2, h3⟩ := c_roll h (t := s.length) (by omega) (by omega) hn (R := []) (g := callF (consA (varD 1) nilA) lenS) (ρ := [some (.dat (.str s))]) (by simp [callF, consA, nilA, varD, rds, rd, lf, SV.r])
  obtain ⟨m, rfl⟩ := Int.eq_ofNat_of_zero_le h1
  have hr : m < s.cps.toList.length := by
    have : s.cps.toList.length = s.length := by simp [PySem.Str.length]
    omega
  refine ⟨⟨#[s.cps.toList[m]]⟩, x', List.mem_map.mpr ⟨_, List.getElem_mem hr, rfl⟩, ?_, h3⟩
  have at' : atI s.cps.toList (m : Int) = some s.cps.toList[m] := atI_nat (j := m) (List.getElem?_eq_getElem hr)
  have ix : ixD (.str s) (.int (m : Int)) = some (.dat (.str ⟨#[s.cps.toList[m]]⟩)) := by
    show (if s.length ≤ sizeLine then (atI s.cps.toList (m : Int)).map _ else none) = _
    rw [if_pos sz, at']
    rfl
  rw [e]
  have hv : varD 1 [some (.own x), some (.dat (.str s))] = some (.dat (.str s), [some (.own x), some (.dat (.str s))]) := rfl
  simp [b__law_pick, retF, bin2, hv, e1, rd, ix, SV.r, finR]
/-- a comprehension that rolls the dice, at most k times an item -/
theorem compL_dice {vs : List Nat} {g : FG} {t : FT} {f : FE} {rest : List (Option SV)} {k : Nat} (Q : D → D → Prop) : ∀ (items : List D) (n : Nat) (x : OV), Dice n x → n + k * items.length < 2 ^ 90 →
    (∀ d ∈ items, ∀ (n : Nat) (x : OV), Dice n x → n < 2 ^ 90 → ∃ ρ1 b ρ2, g d (some (.own x) :: rest) = some ρ1 ∧ t ρ1 = some (b, ρ2) ∧ (b = false → ∃ x', wipeD ρ2 vs = some (.own x') :: rest ∧ Dice (n + k) x') ∧
      (b = true → ∃ y ρ3 x', f ρ2 = some (.dat y, ρ3) ∧ wipeD ρ3 vs = some (.own x') :: rest ∧ Dice (n + k) x' ∧ Q d y)) →
    ∃ ys sub x', compL vs g t f items (some (.own x) :: rest) = some (ys, some (.own x') :: rest) ∧ Dice (n + k * items.length) x' ∧ List.Sublist sub items ∧ Paired Q sub ys
  | [], n, x, h, _, _ => ⟨[], [], x, rfl, h.mono (Nat.le_add_right ..), .slnil, .nil⟩
  | d :: r, n, x, h, hn, hs => by
    rw [List.length_cons, Nat.mul_add, Nat.mul_one] at hn
    obtain ⟨ρ1, b, ρ2, h1, h2, h3, h4⟩ := hs d List.mem_cons_self n x h (by omega)
    rw [compL, h1, Option.bind_some, h2, Option.bind_some]
    cases b with
    | false =>
      obtain ⟨x1, e1, d1⟩ := h3 rfl
      obtain ⟨ys, sub, x', ih, d2, sl, pr⟩ := compL_dice Q r (n + k) x1 d1 (by omega) fun y hy => hs y (List.mem_cons_of_mem _ hy)
      refine ⟨ys, sub, x', ?_, d2.mono (by rw [List.length_cons, Nat.mul_add]; omega), sl.cons _, pr⟩
      rw [if_neg Bool.false_ne_true, e1]
      exact ih
    | true =>
      obtain ⟨y, ρ3, x1, e0, e1, d1, q⟩ := h4 rfl
      obtain ⟨ys, sub, x', ih, d2, sl, pr⟩ := compL_dice Q r (n + k) x1 d1 (by omega) fun y hy => hs y (List.mem_cons_of_mem _ hy)
      refine ⟨y :: ys, d :: sub, x', ?_, d2.mono (by rw [List.length_cons, Nat.mul_add]; omega), sl.cons₂ _, .cons q pr⟩
      rw [if_pos rfl]
      show ((f ρ2).bind _) = _
      rw [e0, Option.bind_some]
      show ((compL vs g t f r (wipeD ρ3 vs)).bind _) = _
      rw [e1, ih]
      rfl
/-- range(n), n small -/
theorem rng_len (n : Nat) : (rngL 0 n).length = n := by simp [rngL]
theorem strs_pair {Q : D → D → Prop} {P : Str → Prop} (h : ∀ d y, Q d y → ∃ s, P s ∧ y = .str s) : ∀ {sub ys : List D}, Paired Q sub ys → ∃ ss : List Str, ys = ss.map D.str ∧ (∀ s ∈ ss, P s) ∧ ss.length = sub.length
  | _, _, .nil => ⟨[], rfl, by simp, rfl⟩
  | _, _, .cons a b => by
    obtain ⟨s, p, rfl⟩ := h _ _ a
    obtain ⟨ss, rfl, q, l⟩ := strs_pair h b
    exact ⟨s :: ss, rfl, fun z hz => by
      rcases List.mem_cons.mp hz with rfl | hz
      · exact p
      · exact q z hz, by simp [l]⟩
theorem app_tl (a b : Str) : (a ++ b).cps.toList = a.cps.toList ++ b.cps.toList := by
  show (a.cps ++ b.cps).toList = _
  simp
theorem join_tl : ∀ ss : List Str, (Str.join "" ss).cps.toList = (ss.map fun s => s.cps.toList).flatten
  | [] => rfl
  | [x] => by simp [Str.join]
  | x :: y :: r => by
    have ih := join_tl (y :: r)
    have e0 : ("" : Str).cps.toList = [] := by decide +kernel
    show (x ++ "" ++ Str.join "" (y :: r)).cps.toList = _
    rw [app_tl, app_tl, e0, ih]
    simp
theorem txt_join (ss : List Str) : Txt.join "" ss = Str.join "" ss := eq_of_beq (join_closes rfl)
theorem sg_flat (x : Str) : (sg x).map (fun s => s.cps.toList) = x.cps.toList.map fun c => [c] := by
  show (x.cps.toList.map _).map _ = _
  rw [List.map_map]
  rfl
theorem join_sg (ss : List Str) (h : ∀ s ∈ ss, s.length = 1) : sg (Txt.join "" ss) = ss := by
  show (Txt.join "" ss).cps.toList.map _ = ss
  rw [txt_join, join_tl]
  induction ss with
  | nil => rfl
  | cons s r ih =>
    obtain ⟨c, rfl⟩ := one_of (h s List.mem_cons_self)
    have := ih fun z hz => h z (List.mem_cons_of_mem _ hz)
    simp only [List.map_cons, List.flatten_cons, List.map_append, this]
    rfl
theorem len_sg (x : Str) : (sg x).length = x.length := signs_len x
theorem sum_one : ∀ ss : List Str, (∀ s ∈ ss, s.length = 1) → (ss.map (·.length)).sum = ss.length
  | [], _ => rfl
  | s :: r, h => by
    rw [List.map_cons, List.sum_cons, sum_one r fun z hz => h z (List.mem_cons_of_mem _ hz), h s List.mem_cons_self, List.length_cons]
    omega
theorem c_pick_str {n : Nat} {x : OV} (h : Dice n x) (hn : n < 2 ^ 100) (s : Str) (h0 : 0 < s.length) (hl : s.length ≤ 1000) {f : FE} {ρ : List (Option SV)} (hf : f (some (.own x) :: ρ) = some (.dat (.str s), some (.own x) :: ρ)) : ∃ d x', d ∈ sg s ∧ callR (gdR 2 m__law_pick) (consA (varD 0) (consA f nilA)) (some (.own x) :: ρ) = some (.dat (.str d), some (.own x') :: ρ) ∧ Dice (n + 1) x' := by
  obtain ⟨d, x', h1, h2, h3⟩ := ev_pick_str h hn s h0 hl
  exact ⟨d, x', h1, callR_at (F := m__law_pick) (n := 2) (ρ := ρ) (ρ1 := ρ) (ds := [.str s]) (cons_at (g := nilA) hf rfl) rfl h2, h3⟩
theorem ev_row_drawn {n : Nat} {x : OV} (h : Dice n x) (hn : n < 2 ^ 80) (most : Nat) (hm : most ≤ 20) (s : Str) (h0 : 0 < s.length) (hl : s.length ≤ 1000) (sL : ∀ z ∈ sg s, z ∈ L) : ∃ row x', m__law_row_drawn x [.int most, .str s] = some (.dat (.str row), x') ∧ Dice (n + 40) x' ∧ row.length ≤ most ∧ Row row := by
  have e : m__law_row_drawn x [.int most, .str s] = (b__law_row_drawn [some (.own x), some (.dat (.int most)), some (.dat (.str s)), none]).bind finR := rfl
  have q80 : (2 : Nat) ^ 80 + 100 < 2 ^ 90 := by decide
  have q100 : (2 : Nat) ^ 90 < 2 ^ 100 := by decide
  have far : (1000 : Int) ≤ 10 ^ 60 := by decide
  obtain ⟨r, x1, e1, r0, r1, d1⟩ := c_roll h (t := (most : Int) + 1) (by omega) (by omega) (by omega) (R := []) (g := fzD [0] (bin2 (varD 1) (conD (.int 1)) addD)) (ρ := [some (.dat (.int most)), some (.dat (.str s)), none]) (by simp [fzD, bin2, varD, conD, rd, addD, SV.r])
  obtain ⟨m, rfl⟩ := Int.eq_ofNat_of_zero_le r0
  have ne : eqX (.str s) (.str "") = some false := by
    have : ¬ s = ("" : Str) := fun z => by
      rw [z] at h0
      exact absurd h0 (by decide +kernel)
    simp [eqX, eqN, eqLeaf, D.pd, PyData.depth, PyData.eqv, this]
  have ci : ifF (tstF (bin2 (varD 2) (conD (.str "")) (asB eqX true))) (callR (gdR 2 m__law_roll) (consA (varD 0) (consA (fzD [0] (bin2 (varD 1) (conD (.int 1)) addD)) nilA))) (conD (.int 0)) [some (.own x), some (.dat (.int most)), some (.dat (.str s)), none] = some (.dat (.int m), [some (.own x1), some (.dat (.int most)), some (.dat (.str s)), none]) := by
    have ct : tstF (bin2 (varD 2) (conD (.str "")) (asB eqX true)) [some (.own x), some (.dat (.int most)), some (.dat (.str s)), none] = some (true, [some (.own x), some (.dat (.int most)), some (.dat (.str s)), none]) := by
      simp [tstF, bin2, varD, conD, rd, asB, ne, SV.r]
    unfold ifF
    rw [ct, Option.bind_some, if_pos rfl]
    exact e1
  have fi : rng1I (consA (ifF (tstF (bin2 (varD 2) (conD (.str "")) (asB eqX true))) (callR (gdR 2 m__law_roll) (consA (varD 0) (consA (fzD [0] (bin2 (varD 1) (conD (.int 1)) addD)) nilA))) (conD (.int 0))) nilA) [some (.own x), some (.dat (.int most)), some (.dat (.str s)), none] = some (rngL 0 m, [some (.own x1), some (.dat (.int most)), some (.dat (.str s)), none]) := by
    unfold rng1I
    rw [cons_at (g := nilA) ci rfl, Option.bind_some]
    show (if _ then _ else _) = _
    rw [if_pos (by omega)]
    rfl
  have hml : m ≤ 20 := by omega
  obtain ⟨ys, sub, x2, e2, d2, sl, pr⟩ := compL_dice (vs := [3]) (g := nameG 3) (t := yesT) (f := callR (gdR 2 m__law_pick) (consA (varD 0) (consA (fzD [0] (varD 2)) nilA))) (rest := [some (.dat (.int most)), some (.dat (.str s)), none]) (k := 1) (fun _ y => ∃ z, z ∈ sg s ∧ y = .str z) (rngL 0 m) (n + 1) x1 d1 (by rw [rng_len]; omega) (fun d _ n' y hy hn' => by
    refine ⟨[some (.own y), some (.dat (.int most)), some (.dat (.str s)), some (.dat d)], true, [some (.own y), some (.dat (.int most)), some (.dat (.str s)), some (.dat d)], rfl, rfl, (fun z => by cases z), fun _ => ?_⟩
    obtain ⟨z, y', hz, e3, d3⟩ := c_pick_str hy (by omega) s h0 hl (f := fzD [0] (varD 2)) (ρ := [some (.dat (.int most)), some (.dat (.str s)), some (.dat d)]) rfl
    exact ⟨.str z, _, y', e3, rfl, d3, z, hz, rfl⟩)
  obtain ⟨ss, rfl, hs, lss⟩ := strs_pair (P := fun z => z ∈ sg s) (fun _ y q => q) pr
  have l2 : ss.length ≤ most := by
    rw [lss]
    have := sl.length_le
    rw [rng_len] at this
    omega
  have one : ∀ z ∈ ss, z.length = 1 := fun z hz => sg_one (hs z hz)
  have js := join_sg ss one
  have jl : (Txt.join "" ss).length = ss.length := by rw [← len_sg, js]
  refine ⟨Txt.join "" ss, x2, ?_, d2.mono (by rw [rng_len]; omega), by omega, ⟨by omega, fun z hz => sL z (hs z (by rw [js] at hz; exact hz))⟩⟩
  have lc : lcF [3] (rng1I (consA (ifF (tstF (bin2 (varD 2) (conD (.str "")) (asB eqX true))) (callR (gdR 2 m__law_roll) (consA (varD 0) (consA (fzD [0] (bin2 (varD 1) (conD (.int 1)) addD)) nilA))) (conD (.int 0))) nilA)) (nameG 3) yesT (callR (gdR 2 m__law_pick) (consA (varD 0) (consA (fzD [0] (varD 2)) nilA))) [some (.own x), some (.dat (.int most)), some (.dat (.str s)), none] = some (.own (.ml (ss.map D.str)), [some (.own x2), some (.dat (.int most)), some (.dat (.str s)), none]) := by
    unfold lcF
    rw [fi, Option.bind_some]
    have z : noneAt [some (.own x1), some (.dat (.int most)), some (.dat (.str s)), none] [3] = true ∧ (rngL 0 m).length ≤ sizeLine := ⟨rfl, by rw [rng_len, sizeLine_eq]; omega⟩
    rw [if_pos z]
    show ((compL [3] (nameG 3) yesT (callR (gdR 2 m__law_pick) (consA (varD 0) (consA (fzD [0] (varD 2)) nilA))) (rngL 0 m) [some (.own x1), some (.dat (.int most)), some (.dat (.str s)), none]).bind _) = _
    rw [e2]
    rfl
  have jm : joinM (.str "") [.lst (ss.map D.str)] = some (.dat (.str (Txt.join "" ss))) := by
    have sum1 := sum_one ss one
    have e0 : ("" : Str).length = 0 := by decide +kernel
    show ((strsOf (ss.map D.str)).bind _) = _
    rw [strsOf_map, Option.bind_some, if_pos (by rw [sum1, e0]; omega)]
  rw [e]
  simp only [b__law_row_drawn, retF, meF, conD, Option.bind_some, rd, tyN, if_true]
  rw [cons_at (g := nilA) lc rfl]
  simp only [Option.bind_some, rds, rd, OV.d, jm, SV.r]
  rfl
abbrev envM (x : OV) (ds left found : List D) (s4 : Option SV) : EnvD := [some (.own x), some (.dat (.lst ds)), some (.own (.ml left)), some (.own (.ml found)), s4]
theorem perm_out : ∀ (l : List D) (j : Nat) (hj : j < l.length), (l[j] :: l.eraseIdx j).Perm l
  | a :: r, 0, _ => by simp
  | a :: r, j + 1, hj => by
    have ih := perm_out r j (by simpa using hj)
    simp only [List.getElem_cons_succ, List.eraseIdx_cons_succ]
    exact (List.Perm.swap _ _ _).trans (ih.cons a)
theorem mutL_at {j : Nat} {g : FA} {F : OV → List D → Option (D × OV)} {ρ ρ1 : EnvD} {xs : List D} {d z : D} {y y' : OV} (h0 : ρ[j]? = some (some (.own (.ml xs)))) (h1 : g ρ = some ([.dat d], ρ1)) (h2 : ρ1[j]? = some (some (.own y))) (h3 : F y [d] = some (z, y')) : mutL j g F ρ = some (.dat z, ρ1.set j (some (.own y'))) := by
  simp only [mutL, mutF, varD, h0, h1, h2, h3, Option.bind_some, datA]
theorem mix_step {n : Nat} {x : OV} (h : Dice n x) (hn : n < 2 ^ 100) (ds left found : List D) (s4 : Option SV) (h0 : left ≠ []) (hl : left.length ≤ 1000) (hf : found.length ≤ 1000) :
    ∃ j x', ∃ hj : j < left.length, exprF (mutL 3 (consA (mutL 2 (consA (callR (gdR 2 m__law_roll) (consA (varD 0) (consA (callF (consA (varD 2) nilA) lenS) nilA))) nilA) popO) nilA) appO) (envM x ds left found s4) = some (.next, envM x' ds (left.eraseIdx j) (found ++ [left[j]]) s4) ∧ Dice (n + 1) x' := by
  have l0 : 0 < left.length := List.length_pos_iff.mpr h0
  have far : (1000 : Int) ≤ 10 ^ 60 := by decide
  have lf : lenS [.lst left] = some (.dat (.int left.length)) := rfl
  obtain ⟨r, x', e1, r0, r1, d1⟩ := c_roll h (t := left.length) (by omega) (by omega) hn (R := []) (g := callF (consA (varD 2) nilA) lenS) (ρ := [some (.dat (.lst ds)), some (.own (.ml left)), some (.own (.ml found)), s4]) (by simp [callF, consA, nilA, varD, rds, rd, OV.d, lf, SV.r])
  obtain ⟨j, rfl⟩ := Int.eq_ofNat_of_zero_le r0
  have hj : j < left.length := by omega
  refine ⟨j, x', hj, ?_, d1⟩
  have pop : popO (.ml left) [.int (j : Int)] = some (left[j], .ml (left.eraseIdx j)) := by
    have si : seqIndex? (j : Int) left.length = some j := by
      unfold seqIndex?
      have h1 : ¬ ((j : Int) < 0) := by omega
      have h2 : (0 : Int) ≤ j := by omega
      have h3 : (j : Int) < left.length := by omega
      simp [h1, h2, h3]
    simp only [popO]
    rw [if_pos (by omega), si, Option.bind_some, List.getElem?_eq_getElem hj]
    rfl
  have app : appO (.ml found) [left[j]] = some (.non, .ml (found ++ [left[j]])) := by
    have hz : found.length < sizeLine := by
      rw [sizeLine_eq]
      omega
    simp only [appO, hz, if_true]
  have m2 : mutL 2 (consA (callR (gdR 2 m__law_roll) (consA (varD 0) (consA (callF (consA (varD 2) nilA) lenS) nilA))) nilA) popO (envM x ds left found s4) = some (.dat left[j], envM x' ds (left.eraseIdx j) found s4) := by
    exact mutL_at (j := 2) (F := popO) (xs := left) rfl (cons_at (g := nilA) e1 rfl) rfl pop
  have m3 : mutL 3 (consA (mutL 2 (consA (callR (gdR 2 m__law_roll) (consA (varD 0) (consA (callF (consA (varD 2) nilA) lenS) nilA))) nilA) popO) nilA) appO (envM x ds left found s4) = some (.dat .non, envM x' ds (left.eraseIdx j) (found ++ [left[j]]) s4) := by
    exact mutL_at (j := 3) (F := appO) (xs := found) rfl (cons_at (g := nilA) m2 rfl) rfl app
  unfold exprF
  rw [m3]
  rfl
theorem mix_loop {ds : List D} {body : FS} (hb : ∀ (n : Nat) (x : OV) (left found : List D) (s4 : Option SV), Dice n x → n < 2 ^ 100 → left ≠ [] → left.length ≤ 1000 → found.length ≤ 1000 → ∃ j x', ∃ hj : j < left.length, body (envM x ds left found s4) = some (.next, envM x' ds (left.eraseIdx j) (found ++ [left[j]]) s4) ∧ Dice (n + 1) x') : ∀ (is : List D) (n : Nat) (x : OV) (left found : List D) (s4 : Option SV), Dice n x → n + is.length < 2 ^ 100 → is.length = left.length → left.length + found.length ≤ 1000 →
    ∃ x' found' s4', loopF [0] [4] (nameG 4) body is (envM x ds left found s4) = some (.next, envM x' ds [] found' s4') ∧ Dice (n + is.length) x' ∧ found'.Perm (found ++ left)
  | [], n, x, left, found, s4, h, _, hl, _ => by
    have : left = [] := List.length_eq_zero_iff.mp hl.symm
    subst this
    exact ⟨x, found, s4, rfl, h, by simp⟩
  | d :: r, n, x, left, found, s4, h, hn, hl, hs => by
    rw [List.length_cons] at hn hl
    obtain ⟨j, x1, hj, e1, d1⟩ := hb n x left found (some (.dat d)) h (by omega) (fun z => by rw [z] at hl; simp at hl) (by omega) (by omega)
    have le := List.length_eraseIdx_of_lt hj
    obtain ⟨x2, found', s4', e2, d2, p2⟩ := mix_loop hb r (n + 1) x1 (left.eraseIdx j) (found ++ [left[j]]) (some (.dat d)) d1 (by omega) (by omega) (by rw [List.length_append, List.length_singleton]; omega)
    refine ⟨x2, found', s4', ?_, d2.mono (by rw [List.length_cons]; omega), p2.trans ?_⟩
    · rw [loopF, if_pos (by simp)]
      show ((some (envM x ds left found (some (.dat d)))).bind fun ρ1 => (body ρ1).bind _) = _
      rw [Option.bind_some, e1, Option.bind_some]
      exact e2
    · rw [List.append_assoc]
      exact (perm_out left j hj).append_left found
theorem for_at {R vs : List Nat} {fi : FI} {g : FG} {b : FS} {ρ ρ1 : EnvD} {is : List D} {out : FlowD × EnvD} (h1 : fi ρ = some (is, ρ1)) (h2 : loopF R vs g b is ρ1 = some out) : forF R vs fi g b ρ = some out := by
  unfold forF
  rw [h1]
  exact h2
theorem seq_at {f g : FS} {ρ ρ1 : EnvD} {out : Option (FlowD × EnvD)} (h1 : f ρ = some (.next, ρ1)) (h2 : g ρ1 = out) : seqF f g ρ = out := by
  unfold seqF
  rw [h1]
  exact h2
theorem lc_at {vs : List Nat} {fi : FI} {g : FG} {t : FT} {f : FE} {ρ ρ1 ρ2 : EnvD} {is ys : List D} (h1 : fi ρ = some (is, ρ1)) (hn : noneAt ρ1 vs = true) (hl : is.length ≤ sizeLine) (h2 : compL vs g t f is ρ1 = some (ys, ρ2)) : lcF vs fi g t f ρ = some (.own (.ml ys), ρ2) := by
  have z : noneAt (is, ρ1).2 vs = true ∧ (is, ρ1).1.length ≤ sizeLine := ⟨hn, hl⟩
  simp only [lcF, h1, Option.bind_some, hn, hl, and_self, if_true, h2]
theorem ev_some {n : Nat} {x : OV} (h : Dice n x) (hn : n < 2 ^ 80) (s : Str) (hl : s.length ≤ 12) : ∃ ys x', lcF [3] (anyI (fzD [0] (varD 1))) (nameG 3) (tstF (bin2 (callR (gdR 2 m__law_roll) (consA (varD 0) (consA (conD (.int 2)) nilA))) (conD (.int 0)) (asB eqX false))) (fzD [0] (varD 3)) [some (.own x), some (.dat (.str s)), none, none] = some (.own (.ml (ys.map D.str)), [some (.own x'), some (.dat (.str s)), none, none]) ∧ Dice (n + 12) x' ∧ List.Sublist ys (sg s) := by
  have q80 : (2 : Nat) ^ 80 + 100 < 2 ^ 90 := by decide
  have q100 : (2 : Nat) ^ 90 < 2 ^ 100 := by decide
  have two : (2 : Int) ≤ 10 ^ 60 := by decide
  obtain ⟨ys, sub, x', e, d, sl, pr⟩ := compL_dice (vs := [3]) (g := nameG 3) (t := tstF (bin2 (callR (gdR 2 m__law_roll) (consA (varD 0) (consA (conD (.int 2)) nilA))) (conD (.int 0)) (asB eqX false))) (f := fzD [0] (varD 3)) (rest := [some (.dat (.str s)), none, none]) (k := 1) (fun d y => y = d) ((sg s).map D.str) n x h (by rw [List.length_map, len_sg]; omega) (fun d _ n' y hy hn' => by
    obtain ⟨r, y', e1, r0, r1, d1⟩ := c_roll hy (t := 2) (by decide) two (by omega) (R := []) (g := conD (.int 2)) (ρ := [some (.dat (.str s)), none, some (.dat d)]) rfl
    have c : tstF (bin2 (callR (gdR 2 m__law_roll) (consA (varD 0) (consA (conD (.int 2)) nilA))) (conD (.int 0)) (asB eqX false)) [some (.own y), some (.dat (.str s)), none, some (.dat d)] = some (decide (r = 0), [some (.own y'), some (.dat (.str s)), none, some (.dat d)]) := by
      generalize callR (gdR 2 m__law_roll) (consA (varD 0) (consA (conD (.int 2)) nilA)) = gg at e1 ⊢
      simp only [tstF, bin2, e1, conD, Option.bind_some, rd, asB, eq_int, Option.map_some, SV.r, Bool.false_eq_true, if_false]
    exact ⟨[some (.own y), some (.dat (.str s)), none, some (.dat d)], decide (r = 0), [some (.own y'), some (.dat (.str s)), none, some (.dat d)], rfl, c, fun _ => ⟨y', rfl, d1⟩, fun _ => ⟨d, _, y', rfl, rfl, d1, rfl⟩⟩)
  have eq : ys = sub := by
    clear sl e
    induction pr with
    | nil => rfl
    | cons a b ih => rw [a, ih]
  subst eq
  obtain ⟨zs, sl2, rfl⟩ := List.sublist_map_iff.mp sl
  refine ⟨zs, x', lc_at (is := (sg s).map D.str) (ρ1 := [some (.own x), some (.dat (.str s)), none, none]) rfl rfl (by rw [List.length_map, len_sg, sizeLine_eq]; omega) e, d.mono (by rw [List.length_map, len_sg]; omega), sl2⟩
theorem pair_prs {Q : D → D → Prop} (h : ∀ d y, Q d y → ∃ v : Int, (0 < v ∧ v ≤ 10 ^ 59) ∧ y = .tup [d, .int v]) : ∀ {sub : List Str} {ys : List D}, Paired Q (sub.map D.str) ys → ∃ c : C, ys = prs c ∧ keys c = sub ∧ ∀ p ∈ c, 0 < p.2 ∧ p.2 ≤ 10 ^ 59
  | [], _, .nil => ⟨[], rfl, rfl, by simp⟩
  | s :: sub, _, .cons a b => by
    obtain ⟨v, hv, rfl⟩ := h _ _ a
    obtain ⟨c, rfl, k, pos⟩ := pair_prs h b
    exact ⟨(s, v) :: c, rfl, by simp [keys] at k ⊢; exact k, fun p hp => by
      rcases List.mem_cons.mp hp with rfl | hp
      · exact hv
      · exact pos p hp⟩
def unS : D → Option Str
  | .str z => some z
  | _ => none
theorem unS_map : ∀ ys : List Str, (ys.map D.str).filterMap unS = ys
  | [] => rfl
  | y :: r => by
    rw [List.map_cons, List.filterMap_cons, unS_map r]
    rfl
theorem perm_strs {es : List D} {ys : List Str} (p : es.Perm (ys.map D.str)) : ∃ zs : List Str, es = zs.map D.str ∧ zs.Perm ys := by
  refine ⟨es.filterMap unS, ?_, by have := p.filterMap unS; rw [unS_map] at this; exact this⟩
  have all : ∀ d ∈ es, ∃ z, d = .str z := fun d hd => by
    obtain ⟨z, _, rfl⟩ := List.mem_map.mp (p.mem_iff.mp hd)
    exact ⟨z, rfl⟩
  clear p
  induction es with
  | nil => rfl
  | cons d r ih =>
    obtain ⟨z, rfl⟩ := all d List.mem_cons_self
    rw [List.filterMap_cons]
    show _ = D.str z :: (r.filterMap unS).map D.str
    rw [← ih fun y hy => all y (List.mem_cons_of_mem _ hy)]
section
variable (a b : C) (x : OV) (s3 s4 s5 s6 s7 : Option SV)
abbrev EP0 : EnvD := [some (.own x), some (.dat (dC a)), some (.dat (dC b)), s3, s4, s5, s6, s7, none, none, none]
abbrev rowsD : List D := (allK a b).map fun k => .tup [.str k, .int (val a k), .int (val b k)]
abbrev EP1 (k : Str) : EnvD := [some (.own x), some (.dat (dC a)), some (.dat (dC b)), some (.dat (.lst (rowsD a b))), s4, s5, s6, s7, some (.dat (.str k)), some (.dat (.int (val a k))), some (.dat (.int (val b k)))]
end
abbrev gRows : FG := tupG 3 (consG (nameG 8) (consG (nameG 9) (consG (nameG 10) nilG)))
theorem allK_len (a b : C) : (allK a b).length ≤ 12 := List.length_filter_le _ L
theorem rows_lc {a b : C} {x : OV} {s3 s4 s5 s6 s7 : Option SV} {t : FT} {f : FE} (p : Str → Bool) (e : Str → D) (hs : s3 = some (.own (.ml (rowsD a b))) ∨ s3 = some (.dat (.lst (rowsD a b)))) (h : ∀ k, t (EP1 a b x s4 s5 s6 s7 k) = some (p k, EP1 a b x s4 s5 s6 s7 k) ∧ (p k = true → f (EP1 a b x s4 s5 s6 s7 k) = some (.dat (e k), EP1 a b x s4 s5 s6 s7 k))) :
    lcF [8, 9, 10] (anyI (fzD [0] (varD 3))) gRows t f (EP0 a b x s3 s4 s5 s6 s7) = some (.own (.ml (((allK a b).filter p).map e)), EP0 a b x (some (.dat (.lst (rowsD a b)))) s4 s5 s6 s7) := by
  have fi : anyI (fzD [0] (varD 3)) (EP0 a b x s3 s4 s5 s6 s7) = some (rowsD a b, EP0 a b x (some (.dat (.lst (rowsD a b)))) s4 s5 s6 s7) := by
    rcases hs with rfl | rfl
    · rfl
    · rfl
  refine lc_at fi rfl (by have := allK_len a b; rw [List.length_map, sizeLine_eq]; omega) ?_
  exact compL_pure (fun k => .tup [.str k, .int (val a k), .int (val b k)]) p e (allK a b) fun k _ => ⟨EP1 a b x s4 s5 s6 s7 k, rfl, (h k).1, rfl, (h k).2⟩
/-- the pairs (letter, number) -/
theorem prs_of (ks : List Str) (f : Str → Int) : (ks.map fun k => D.tup [.str k, .int (f k)]) = prs (ks.map fun k => (k, f k)) := by
  unfold prs
  rw [List.map_map]
  rfl
theorem tup2 {f g : FE} {ρ : EnvD} {d e : D} (h1 : f ρ = some (.dat d, ρ)) (h2 : g ρ = some (.dat e, ρ)) : tupF (consA f (consA g nilA)) ρ = some (.dat (.tup [d, e]), ρ) := by
  have c := cons_at h1 (cons_at (g := nilA) h2 rfl)
  simp only [tupF, c, Option.bind_some, datA]
  rw [if_pos (by rw [sizeLine_eq]; show 2 ≤ 16777216; decide)]
theorem tup3 {f g h : FE} {ρ : EnvD} {d e i : D} (h1 : f ρ = some (.dat d, ρ)) (h2 : g ρ = some (.dat e, ρ)) (h3 : h ρ = some (.dat i, ρ)) : tupF (consA f (consA g (consA h nilA))) ρ = some (.dat (.tup [d, e, i]), ρ) := by
  have c := cons_at h1 (cons_at h2 (cons_at (g := nilA) h3 rfl))
  simp only [tupF, c, Option.bind_some, datA]
  rw [if_pos (by rw [sizeLine_eq]; show 3 ≤ 16777216; decide)]
theorem callP2 {F : FP} {f g : FE} {ρ : EnvD} {d e : D} {z : SV} (h1 : f ρ = some (.dat d, ρ)) (h2 : g ρ = some (.dat e, ρ)) (h : F [d, e] = some z) : callP (gdP 2 F) (consA f (consA g nilA)) ρ = some (z.r, ρ) := by
  have c := cons_at h1 (cons_at (g := nilA) h2 rfl)
  simp only [callP, c, Option.bind_some, datA, gdP, List.length_cons, List.length_nil, if_true, h]
theorem callP1 {F : FP} {f : FE} {ρ : EnvD} {d : D} {z : SV} (h1 : f ρ = some (.dat d, ρ)) (h : F [d] = some z) : callP (gdP 1 F) (consA f nilA) ρ = some (z.r, ρ) := by
  have c := cons_at (g := nilA) h1 rfl
  simp only [callP, c, Option.bind_some, datA, gdP, List.length_cons, List.length_nil, if_true, h]
theorem fz_dat {i : Nat} {R : List Nat} {ρ : EnvD} {d : D} (h : ρ[i]? = some (some (.dat d))) : fzD R (varD i) ρ = some (.dat d, ρ) := by
  simp only [fzD, varD, h]
theorem small_val {c : C} (h : Good c) (k : Str) : (val c k).natAbs < 10 ^ 60 ∧ 0 ≤ val c k := by
  by_cases z : k ∈ keys c
  · obtain ⟨p, hp, rfl⟩ := List.mem_map.mp z
    rw [val_in h.nd hp]
    have := h.pos p hp
    have q : (10 : Int) ^ 60 = ((10 ^ 60 : Nat) : Int) := by decide
    omega
  · rw [val_out z]
    exact ⟨by decide, Int.le_refl 0⟩
theorem small_canon {f : Str → Int} (h : ∀ k, (f k).natAbs < 2 ^ 1900) : ∀ p ∈ canon f, p.2.natAbs.log2 < 1920 := by
  intro p hp
  obtain ⟨k, _, rfl⟩ := List.mem_map.mp hp
  by_cases z : (f k).natAbs = 0
  · show (f k).natAbs.log2 < 1920
    rw [z]
    decide
  · have := (Nat.log2_lt z).mpr (h k)
    show (f k).natAbs.log2 < 1920
    omega
theorem far60 : (10 : Int) ^ 60 = FAR := by decide
theorem good_canon {f : Str → Int} (h : ∀ k, 0 ≤ f k ∧ f k < 10 ^ 60) : Good (canon f) := ⟨ok_canon f, fun p hp => by
  obtain ⟨k, hk, rfl⟩ := List.mem_map.mp hp
  have z : f k ≠ 0 := by simpa using (List.mem_filter.mp hk).2
  have := h k
  exact ⟨by show 0 < f k; omega, this.2⟩⟩
theorem val9 {c : C} (h : Good c) (v : ∀ p ∈ c, p.2 ≤ 10 ^ 59) (k : Str) : 0 ≤ val c k ∧ val c k ≤ 10 ^ 59 := by
  by_cases z : k ∈ keys c
  · obtain ⟨p, hp, rfl⟩ := List.mem_map.mp z
    rw [val_in h.nd hp]
    have := h.pos p hp
    exact ⟨by omega, v p hp⟩
  · rw [val_out z]
    exact ⟨Int.le_refl 0, by decide⟩
theorem keys_canon' {c : C} (h : Ok c) {f : Str → Int} (hf : ∀ k, k ∉ keys c → f k = 0) : ((sortS (keys c)).map fun k => (k, f k)).filter (fun p => decide (p.2 ≠ 0)) = canon f := by
  rw [sort_keys h.nd h.sub, List.filter_map, List.filter_filter]
  unfold canon
  congr 1
  refine List.filter_congr fun k _ => ?_
  by_cases z : k ∈ keys c
  · simp [z]
  · simp [z, hf k z]
theorem len_filter_map {ks : List Str} (f : Str → Int) (p : Str → Bool) (h : ks.length ≤ 12) : (((ks.filter p).map fun k => (k, f k)) : C).length ≤ 1000 := by
  rw [List.length_map]
  have := List.length_filter_le p ks
  omega
section
variable {a b : C} {x : OV} {s3 s4 s5 s6 s7 : Option SV}
end
theorem eq_nil : ∀ ds : List D, eqX (.lst ds) (.lst []) = some (decide (ds = []))
  | [] => rfl
  | d :: ds => by
    have e : eqX (.lst (d :: ds)) (.lst []) = if (d :: ds).length = ([] : List D).length then allO (List.zipWith (eqN 59) (d :: ds) []) else some false := rfl
    rw [e, if_neg (by simp)]
    simp
theorem due_eq {a b : C} (ha : Ok a) (hb : Ok b) : ((keys (both a b)).all fun k => decide (val a k ≤ val b k)) = decide ((((allK a b).filter fun k => decide (val b k < val a k)).map D.str) = []) := by
  rw [Bool.eq_iff_iff, List.all_eq_true, decide_eq_true_eq, List.map_eq_nil_iff, List.filter_eq_nil_iff]
  constructor
  · intro h k hk
    have m := (List.mem_filter.mp hk).2
    have := h k ((mem_both a b k).mpr (of_decide_eq_true m))
    simp only [decide_eq_true_eq] at this ⊢
    omega
  · intro h k hk
    have m := (mem_both a b k).mp hk
    have z : k ∈ L := by
      rcases m with m | m
      · exact ha.sub k m
      · exact hb.sub k m
    have := h k (List.mem_filter.mpr ⟨z, decide_eq_true m⟩)
    simp only [decide_eq_true_eq] at this ⊢
    omega
theorem sum_lt : ∀ (ns : List Int) (m : Int), (∀ n ∈ ns, 0 ≤ n ∧ n ≤ m) → 0 ≤ ns.sum ∧ ns.sum ≤ ns.length * m
  | [], m, _ => by simp
  | n :: r, m, h => by
    obtain ⟨h1, h2⟩ := sum_lt r m fun z hz => h z (List.mem_cons_of_mem _ hz)
    have := h n List.mem_cons_self
    rw [List.sum_cons, List.length_cons, Int.natCast_add, Int.add_mul]
    constructor
    · omega
    · have : ((1 : Nat) : Int) * m = m := Int.one_mul m
      omega
theorem size_small {c : C} (h : Good c) : (c.map fun p : Str × Int => p.2).sum.natAbs.log2 < 1920 := by
  have l := h.toOk.len
  obtain ⟨h1, h2⟩ := sum_lt (c.map fun p : Str × Int => p.2) (10 ^ 60) fun n hn => by
    obtain ⟨p, hp, rfl⟩ := List.mem_map.mp hn
    have := h.pos p hp
    exact ⟨by omega, by omega⟩
  rw [List.length_map] at h2
  have h3 : (c.length : Int) * 10 ^ 60 ≤ 12 * 10 ^ 60 := Int.mul_le_mul_of_nonneg_right (by omega) (by decide)
  have h4 : (12 : Int) * 10 ^ 60 < ((2 ^ 1900 : Nat) : Int) := by decide +kernel
  by_cases z : (c.map fun p : Str × Int => p.2).sum.natAbs = 0
  · rw [z]
    decide
  · have := (Nat.log2_lt z).mpr (show (c.map fun p : Str × Int => p.2).sum.natAbs < 2 ^ 1900 by omega)
    omega
theorem sh_mono {d : D} {n k m l : Nat} (h : Sh d n k) (h1 : n ≤ m) (h2 : k ≤ l) : Sh d m l := by
  obtain ⟨p, a, b, c, e⟩ := h
  exact ⟨p, a, b, by omega, by omega⟩
theorem good_small {c : C} (h : Good c) : ∀ p ∈ c, p.2.natAbs.log2 < 1920 := fun p hp => by
  have := h.pos p hp
  have q : (10 : Int) ^ 60 < ((2 ^ 1900 : Nat) : Int) := by decide +kernel
  have := (Nat.log2_lt (n := p.2.natAbs) (by omega)).mpr (show p.2.natAbs < 2 ^ 1900 by omega)
  omega
theorem lt_big {i : Int} (h : -(2 * 10 ^ 60) ≤ i ∧ i ≤ 2 * 10 ^ 60) : i.natAbs < 2 ^ 1900 := by
  have q : (2 : Int) * 10 ^ 60 < ((2 ^ 1900 : Nat) : Int) := by decide +kernel
  omega
theorem set_own {R : List Nat} {i : Nat} {f : FE} {ρ ρ1 ρ2 : EnvD} {y : OV} (h : f ρ = some (.own y, ρ1)) (h2 : putS R i (.own y) ρ1 = some ρ2) : setF R i f ρ = some (.next, ρ2) := by
  simp only [setF, h, Option.bind_some, h2]
theorem set_dat {R : List Nat} {i : Nat} {f : FE} {ρ ρ1 ρ2 : EnvD} {y : D} (h : f ρ = some (.dat y, ρ1)) (h2 : putS R i (.dat y) ρ1 = some ρ2) : setF R i f ρ = some (.next, ρ2) := by
  simp only [setF, h, Option.bind_some, h2]
theorem any_at {f : FE} {ρ ρ1 : EnvD} {d : D} {ds : List D} (h : f ρ = some (.dat d, ρ1)) (h2 : itemsD d = some ds) : anyI f ρ = some (ds, ρ1) := by
  simp only [anyI, h, Option.bind_some, h2]
theorem fz_own {R : List Nat} {f : FE} {ρ ρ1 : EnvD} {y : OV} (h : f ρ = some (.own y, ρ1)) : fzD R f ρ = some (.dat y.d, ρ1) := by
  simp only [fzD, h]
theorem fz_d {R : List Nat} {f : FE} {ρ ρ1 : EnvD} {y : D} (h : f ρ = some (.dat y, ρ1)) : fzD R f ρ = some (.dat y, ρ1) := by
  simp only [fzD, h]
/-- a call of a built-in function of one argument -/
theorem call1 {f : FE} {F : List D → Option SV} {ρ ρ1 : EnvD} {r : RV} {d : D} {z : SV} (h : f ρ = some (r, ρ1)) (h1 : rd ρ1 r = some d) (h2 : F [d] = some z) : callF (consA f nilA) F ρ = some (z.r, ρ1) := by
  have c := cons_at (g := nilA) h rfl
  simp only [callF, c, Option.bind_some, rds, h1, h2]
theorem bin_at {f g : FE} {F : D → D → Option SV} {ρ ρ1 ρ2 : EnvD} {r q : RV} {d e : D} {z : SV} (h1 : f ρ = some (r, ρ1)) (h2 : g ρ1 = some (q, ρ2)) (h3 : rd ρ2 r = some d) (h4 : rd ρ2 q = some e) (h5 : F d e = some z) : bin2 f g F ρ = some (z.r, ρ2) := by
  simp only [bin2, h1, h2, Option.bind_some, h3, h4, h5]
theorem tst_at {f : FE} {ρ ρ1 : EnvD} {b : Bool} (h : f ρ = some (.dat (.bl b), ρ1)) : tstF f ρ = some (b, ρ1) := by
  simp only [tstF, h, Option.bind_some]
theorem not_at {f : FT} {ρ ρ1 : EnvD} {b : Bool} (h : f ρ = some (b, ρ1)) : notT f ρ = some (!b, ρ1) := by
  simp only [notT, h, Option.bind_some]
theorem or_ff {f g : FT} {ρ ρ1 ρ2 : EnvD} {b : Bool} (h : f ρ = some (false, ρ1)) (h2 : g ρ1 = some (b, ρ2)) : orT f g ρ = some (b, ρ2) := by
  simp only [orT, h, Option.bind_some, Bool.false_eq_true, if_false, h2]
theorem if_ff {c : FT} {f g : FS} {ρ ρ1 : EnvD} {out : Option (FlowD × EnvD)} (h : c ρ = some (false, ρ1)) (h2 : g ρ1 = out) : ifS c f g ρ = out := by
  simp only [ifS, h, Option.bind_some, Bool.false_eq_true, if_false, h2]
theorem and_tt {f g : FE} {ρ ρ1 : EnvD} {out : Option (RV × EnvD)} (h : f ρ = some (.dat (.bl true), ρ1)) (h2 : g ρ1 = out) : andV f g ρ = out := by
  simp only [andV, h, Option.bind_some, if_true, h2]
theorem ret_dat {f : FE} {ρ ρ1 : EnvD} {d : D} (h : f ρ = some (.dat d, ρ1)) : retF f ρ = some (.ret (.dat d), ρ1) := by
  simp only [retF, h, Option.bind_some]
/-- c(x) is b -/
theorem eq_strs (s t : Str) : eqX (.str s) (.str t) = some (decide (s = t)) := by
  simp [eqX, eqN, eqLeaf, D.pd, PyData.depth, PyData.eqv]
  rfl
theorem mul_canon {a : C} (h : Good a) {n : Int} (h0 : 0 ≤ n) (hn : n ≤ 10 ^ 59) (k : Str) : (val a k * n).natAbs < 2 ^ 1900 := by
  have := small_val h k
  rw [Int.natAbs_mul]
  have h1 : n.natAbs ≤ 10 ^ 59 := by
    have : ((10 ^ 59 : Nat) : Int) = (10 : Int) ^ 59 := by decide
    omega
  have h2 := Nat.mul_le_mul (Nat.le_of_lt this.1) h1
  have h3 : (10 ^ 60 * 10 ^ 59 : Nat) < 2 ^ 1900 := by decide +kernel
  omega
theorem sort_len {c : C} (h : Ok c) : (sortS (keys c)).length ≤ 12 := by
  rw [(sortS_perm _).length_eq]
  have := h.len
  simpa [keys] using this
section
variable {κ : Type} [DecidableEq κ]
theorem put_self (kvs : List (κ × D)) (k : κ) (v : D) : (k, v) ∈ putD kvs k v := by
  unfold putD
  split
  · rename_i h
    obtain ⟨kv, h1, h2⟩ := List.any_eq_true.mp h
    exact List.mem_map.mpr ⟨kv, h1, by have := of_decide_eq_true h2; rw [if_pos this, this]⟩
  · exact List.mem_append_right _ (List.mem_singleton.mpr rfl)
theorem put_sub {kvs : List (κ × D)} {k : κ} {v : D} {e : κ × D} (h : e ∈ putD kvs k v) : e ∈ kvs ∨ e = (k, v) := by
  unfold putD at h
  split at h
  · obtain ⟨kv, h1, h2⟩ := List.mem_map.mp h
    split at h2
    · rename_i z
      exact .inr (by rw [← h2, z])
    · exact .inl (h2 ▸ h1)
  · rcases List.mem_append.mp h with h | h
    · exact .inl h
    · exact .inr (List.mem_singleton.mp h)
theorem put_nd {kvs : List (κ × D)} {k : κ} {v : D} (nd : (kvs.map (·.1)).Nodup) : ((putD kvs k v).map (·.1)).Nodup := by
  unfold putD
  split
  · have : (kvs.map (fun kv => if kv.1 = k then (kv.1, v) else kv)).map (·.1) = kvs.map (·.1) := by
      rw [List.map_map]
      refine List.map_congr_left fun kv _ => ?_
      simp only [Function.comp]
      split <;> rfl
    rw [this]
    exact nd
  · rename_i h
    rw [List.map_append]
    refine List.nodup_append.mpr ⟨nd, by simp, fun a ha b hb e => h ?_⟩
    obtain ⟨kv, h1, rfl⟩ := List.mem_map.mp ha
    simp only [List.map_cons, List.map_nil, List.mem_singleton] at hb
    exact List.any_eq_true.mpr ⟨kv, h1, decide_eq_true (by rw [e, hb])⟩
theorem put_len (kvs : List (κ × D)) (k : κ) (v : D) : (putD kvs k v).length ≤ kvs.length + 1 := by
  unfold putD
  split
  · rw [List.length_map]; omega
  · rw [List.length_append, List.length_singleton]; omega
theorem merge_fresh : ∀ (l acc : List (κ × D)), ((acc ++ l).map (·.1)).Nodup → mergeD acc l = acc ++ l
  | [], acc, _ => by simp [mergeD]
  | e :: l, acc, nd => by
    have n : ¬ (acc.any fun kv => decide (kv.1 = e.1)) = true := fun z => by
      obtain ⟨kv, h1, h2⟩ := List.any_eq_true.mp z
      rw [List.map_append] at nd
      exact (List.nodup_append.mp nd).2.2 kv.1 (List.mem_map_of_mem h1) e.1 (by simp) (of_decide_eq_true h2)
    show mergeD (putD acc e.1 e.2) l = _
    unfold putD
    rw [if_neg n, merge_fresh l (acc ++ [e]) (by simpa using nd)]
    simp
theorem get_mem {kv : κ × D} : ∀ {l : List (κ × D)}, (l.map (·.1)).Nodup → kv ∈ l → getK l kv.1 = some kv.2
  | [], _, h => by cases h
  | q :: l, nd, h => by
    rw [List.map_cons, List.nodup_cons] at nd
    have ih := get_mem (kv := kv) (l := l) nd.2
    unfold getK at ih ⊢
    rw [List.find?_cons]
    rcases List.mem_cons.mp h with rfl | h
    · rw [decide_eq_true rfl]
      rfl
    · rw [decide_eq_false fun (z : q.1 = kv.1) => nd.1 (z ▸ List.mem_map_of_mem (f := Prod.fst) h)]
      exact ih h
end
theorem kv_nd {c : C} (h : Ok c) : ((kvC c).map (·.1)).Nodup := by
  have : (kvC c).map (·.1) = (keys c).map Sum.inr := by simp [kvC, keys, List.map_map, Function.comp_def]
  rw [this]
  exact List.Pairwise.map _ (fun a b ne z => ne (Sum.inr.inj z)) h.nd
theorem merge_kvC {c : C} (h : Ok c) : mergeD [] (kvC c) = kvC c := merge_fresh (kvC c) [] (kv_nd h)
theorem merge_app {κ : Type} [DecidableEq κ] (a b : List (κ × D)) (c : List (κ × D)) : mergeD c (a ++ b) = mergeD (mergeD c a) b := List.foldl_append ..
theorem pairs_app : ∀ (c : C) (k : Key) (v : D), pairsK (prs c ++ [.tup [keyD k, v]]) = some (kvC c ++ [(k, v)])
  | [], k, v => by
    have tk : toKey (keyD k) = some k := by cases k <;> rfl
    simp [prs, kvC, pairsK, tk]
  | p :: c, k, v => by
    have ih := pairs_app c k v
    unfold prs kvC at ih ⊢
    simp [pairsK, toKey, ih]
theorem pairs_non : ∀ (c : C) (v : D), pairsK (prs c ++ [.tup [.non, v]]) = none
  | [], v => by simp [prs, pairsK, toKey]
  | p :: c, v => by
    have ih := pairs_non c v
    unfold prs at ih ⊢
    simp [pairsK, toKey, ih]
def kvN (c : C) : List (NK × D) := c.map fun p => (some (.inr p.1), .int p.2)
theorem pairs_N : ∀ (c : C) (v : D), pairsN (prs c ++ [.tup [.non, v]]) = some (kvN c ++ [(none, v)])
  | [], v => by simp [prs, kvN, pairsN, toNK]
  | p :: c, v => by
    have ih := pairs_N c v
    unfold prs kvN at ih ⊢
    simp [pairsN, toNK, toKey, ih]
theorem prs_len (c : C) (d : D) (h : Ok c) : (prs c ++ [d]).length ≤ sizeLine := by
  have := h.len
  rw [List.length_append, List.length_singleton, sizeLine_eq]
  simp only [prs, List.length_map]
  omega
theorem dict_app {c : C} (h : Ok c) (k : Key) (v : D) : dictF false [.lst (prs c ++ [.tup [keyD k, v]])] = some (.own (.mK (putD (kvC c) k v))) := by
  show (if (prs c ++ [D.tup [keyD k, v]]).length ≤ sizeLine then _ else _) = _
  rw [if_pos (prs_len c _ h), if_neg Bool.false_ne_true, pairs_app]
  show some (SV.own (.mK (mergeD [] (kvC c ++ [(k, v)])))) = _
  rw [merge_app, merge_kvC h]
  rfl
theorem kvN_nd {c : C} (h : Ok c) (v : D) : ((kvN c ++ [((none : NK), v)]).map fun p : NK × D => p.1).Nodup := by
  have : (kvN c).map (·.1) = (keys c).map fun k => (some (.inr k) : NK) := by simp [kvN, keys, List.map_map, Function.comp_def]
  rw [List.map_append, this]
  refine List.nodup_append.mpr ⟨List.Pairwise.map _ (fun a b ne z => ne (Sum.inr.inj (Option.some.inj z))) h.nd, by simp, fun a ha b hb e => ?_⟩
  obtain ⟨k, _, rfl⟩ := List.mem_map.mp ha
  simp only [List.map_cons, List.map_nil, List.mem_singleton] at hb
  rw [hb] at e
  cases e
theorem dict_non {c : C} (h : Ok c) (v : D) : dictF false [.lst (prs c ++ [.tup [.non, v]])] = some (.dat (.dN (kvN c ++ [(none, v)]))) := by
  show (if (prs c ++ [D.tup [.non, v]]).length ≤ sizeLine then _ else _) = _
  rw [if_pos (prs_len c _ h), if_neg Bool.false_ne_true, pairs_non, pairs_N]
  show some (SV.dat (.dN (mergeD [] (kvN c ++ [(none, v)])))) = _
  rw [merge_fresh (kvN c ++ [((none : NK), v)]) [] (kvN_nd h v)]
  rfl
theorem leaf_L {k : Str} (h : k ∈ L) : leafB (.str k) = true := by
  have := len_L k h
  simp [leafB, this, sizeLine_eq]
theorem kv_leaf {c : C} (h : Ok c) : ∀ e ∈ entK (kvC c), leafB e.1 = true ∧ leafB e.2 = true := fun e he => by
  obtain ⟨kv, h1, rfl⟩ := List.mem_map.mp he
  obtain ⟨p, h2, rfl⟩ := List.mem_map.mp h1
  exact ⟨leaf_L (h.sub p.1 (List.mem_map_of_mem h2)), rfl⟩
theorem put_leaf {c : C} (h : Ok c) {k : Key} {v : D} (lk : leafB (keyD k) = true) (lv : leafB v = true) : ∀ e ∈ entK (putD (kvC c) k v), leafB e.1 = true ∧ leafB e.2 = true := fun e he => by
  obtain ⟨kv, h1, rfl⟩ := List.mem_map.mp he
  rcases put_sub h1 with h2 | rfl
  · exact kv_leaf h _ (List.mem_map.mpr ⟨kv, h2, rfl⟩)
  · exact ⟨lk, lv⟩
theorem put_small {c : C} (h : Ok c) (k : Key) (v : D) : (putD (kvC c) k v).length ≤ sizeLine := by
  have := put_len (kvC c) k v
  have := kvC_len h
  omega
def nearL (k : Str) : List D := [.tup [.str k, .int 0], .tup [.str k, .int (-1)], .tup [.str k, .bl true], .tup [.str k, .non], .tup [.str k, .str "1"], .tup [.str k, .int (10 ^ 60)], .tup [.str "m", .int 1], .tup [.str "", .int 1], .tup [.str "ab", .int 1], .tup [.int 0, .int 1], .tup [.non, .int 1]]
theorem good_put {c : C} (h : Good c) {k : Str} (hk : k ∈ L) {v : Int} (h0 : 0 < v) (h1 : v < 10 ^ 60) : Good (putC c k v) := ⟨ok_put h.toOk hk v, fun p hp => by
  unfold putC at hp
  split at hp
  · obtain ⟨q, h2, h3⟩ := List.mem_map.mp hp
    split at h3
    · rw [← h3]
      exact ⟨h0, h1⟩
    · exact h.pos p (h3 ▸ h2)
  · rcases List.mem_append.mp hp with h2 | h2
    · exact h.pos p h2
    · rw [List.mem_singleton.mp h2]
      exact ⟨h0, h1⟩⟩
/-- for x in items, where each turn keeps I -/
theorem loop_all {R vs : List Nat} {g : FG} {body : FS} (I : EnvD → Prop) (hv : ∀ i ∈ vs, i ∉ R) : ∀ (items : List D) (ρ : EnvD), (∀ d ∈ items, ∀ ρ, I ρ → ∃ ρ1 ρ2, g d ρ = some ρ1 ∧ body ρ1 = some (.next, ρ2) ∧ I ρ2) → I ρ → ∃ ρ', loopF R vs g body items ρ = some (.next, ρ') ∧ I ρ'
  | [], ρ, _, h => ⟨ρ, rfl, h⟩
  | d :: r, ρ, st, h => by
    obtain ⟨ρ1, ρ2, h1, h2, h3⟩ := st d List.mem_cons_self ρ h
    obtain ⟨ρ', h4, h5⟩ := loop_all I hv r ρ2 (fun x hx => st x (List.mem_cons_of_mem _ hx)) h3
    refine ⟨ρ', ?_, h5⟩
    rw [loopF, if_pos hv, h1, Option.bind_some, h2, Option.bind_some]
    exact h4
theorem items_at {c : C} {i : Nat} {ρ : EnvD} (h : ρ[i]? = some (some (.dat (dC c)))) : listiF (varD i) ρ = some (.own (.ml (prs c)), ρ) := by
  have e : (kvC c).map DL.pairD = prs c := by
    unfold kvC prs
    rw [List.map_map]
    rfl
  simp only [listiF, varD, h, Option.bind_some, rd, dC, e]
theorem lst1 {f : FE} {ρ ρ1 : EnvD} {d : D} (h : f ρ = some (.dat d, ρ1)) : lstF (consA f nilA) ρ = some (.own (.ml [d]), ρ1) := by
  have c := cons_at (g := nilA) h rfl
  simp only [lstF, c, Option.bind_some, datA]
  rw [if_pos (by rw [sizeLine_eq]; show 1 ≤ 16777216; decide)]
theorem add_lst {xs ys : List D} (h : xs.length + ys.length ≤ sizeLine) : addD (.lst xs) (.lst ys) = some (.own (.ml (xs ++ ys))) := by
  have e : addD (.lst xs) (.lst ys) = if xs.length + ys.length ≤ sizeLine then some (.own (.ml (xs ++ ys))) else none := rfl
  rw [e, if_pos h]
/-- dict(items + [(k, v)]) -/
theorem bent_at {c : C} (hc : Ok c) {i : Nat} {f g : FE} {ρ : EnvD} {k v : D} {z : SV} (h : ρ[i]? = some (some (.dat (dC c)))) (h1 : f ρ = some (.dat k, ρ)) (h2 : g ρ = some (.dat v, ρ)) (hz : dictF false [.lst (prs c ++ [.tup [k, v]])] = some z) : callF (consA (bin2 (listiF (varD i)) (lstF (consA (tupF (consA f (consA g nilA))) nilA)) addD) nilA) (dictF false) ρ = some (z.r, ρ) := by
  have t := tup2 h1 h2
  have l := lst1 t
  have b := bin_at (F := addD) (items_at h) l rfl rfl (add_lst (by have := prs_len c (.tup [k, v]) hc; rw [List.length_append] at this; exact this))
  exact call1 b rfl hz
abbrev EV (x : OV) (c : C) (s2 s3 s4 s5 s6 s7 s8 : Option SV) : EnvD := [some (.own x), some (.dat (dC c)), s2, s3, s4, s5, s6, s7, s8]
theorem par_dat {R : List Nat} {i j : Nat} {f g : FE} {ρ ρ1 ρ2 ρ3 ρ4 : EnvD} {d e : D} (h1 : f ρ = some (.dat d, ρ1)) (h2 : g ρ1 = some (.dat e, ρ2)) (h3 : putS R i (.dat d) ρ2 = some ρ3) (h4 : putS R j (.dat e) ρ3 = some ρ4) : parF R i j f g ρ = some (.next, ρ4) := by
  simp only [parF, h1, h2, h3, h4, Option.bind_some]
theorem lcS_at {vs : List Nat} {fi : FI} {g : FG} {t : FT} {f : FE} {ρ ρ1 ρ2 : EnvD} {is ys : List D} (h1 : fi ρ = some (is, ρ1)) (hn : datAt ρ1 vs = true) (hl : is.length ≤ sizeLine) (h2 : compL vs g t f is (wipeD ρ1 vs) = some (ys, ρ2)) : lcS vs fi g t f ρ = some (.own (.ml ys), keepD ρ1 ρ2 vs) := by
  simp only [lcS, h1, Option.bind_some, hn, hl, and_self, if_true, h2]
def someL (c : C) : List D := [.non, .lst [], .tup [], .str "a", .int 3, .lst (prs c)]
theorem str_tl {a b : Str} (h : a.cps.toList = b.cps.toList) : a = b := PySem.Str.ext' (Array.toList_inj.mp h)
theorem sg_app (a b : Str) : sg (a ++ b) = sg a ++ sg b := by
  show (a ++ b).cps.toList.map _ = _
  rw [app_tl, List.map_append]
  rfl
theorem foldl_app (l : List (Array Nat)) : ∀ acc : Array Nat, (l.foldl (· ++ ·) acc).toList = acc.toList ++ (l.map (·.toList)).flatten := by
  induction l with
  | nil => simp
  | cons a r ih =>
    intro acc
    rw [List.foldl_cons, ih, Array.toList_append, List.map_cons, List.flatten_cons, List.append_assoc]
theorem rep_tl (c n : Nat) : (repS ⟨#[c]⟩ n).cps.toList = List.replicate n c := by
  unfold repS
  rw [foldl_app, List.map_replicate]
  show [] ++ (List.replicate n [c]).flatten = _
  rw [List.nil_append]
  induction n with
  | zero => rfl
  | succ n ih => rw [List.replicate_succ, List.flatten_cons, ih, List.replicate_succ]; rfl
/-- each of ks as often as it stands in ss -/
def blocks (ss ks : List Str) : List Str := ks.flatMap fun k => List.replicate (ss.count k) k
theorem mem_blocks {ss ks : List Str} {x : Str} (h : x ∈ blocks ss ks) : x ∈ ks := by
  obtain ⟨k, h1, h2⟩ := List.mem_flatMap.mp h
  rw [List.eq_of_mem_replicate h2]
  exact h1
theorem count_blocks (ss : List Str) (x : Str) : ∀ ks : List Str, ks.Nodup → (blocks ss ks).count x = if x ∈ ks then ss.count x else 0
  | [], _ => rfl
  | k :: r, nd => by
    obtain ⟨n1, n2⟩ := List.nodup_cons.mp nd
    have ih := count_blocks ss x r n2
    unfold blocks at ih ⊢
    rw [List.flatMap_cons, List.count_append, ih, List.count_replicate]
    by_cases e : k = x
    · subst e
      simp [n1]
    · have : ¬ x = k := fun z => e z.symm
      simp [e, this]
theorem blocks_rise {ss : List Str} : ∀ {ks : List Str}, ks.Pairwise (fun a b => leS a b = true) → (blocks ss ks).Pairwise fun a b => leS a b = true
  | [], _ => List.Pairwise.nil
  | k :: r, h => by
    obtain ⟨h1, h2⟩ := List.pairwise_cons.mp h
    unfold blocks
    rw [List.flatMap_cons]
    refine List.pairwise_append.mpr ⟨?_, blocks_rise h2, fun a ha b hb => ?_⟩
    · refine List.pairwise_replicate.mpr (.inr ?_)
      have := leS_total k k
      simpa using this
    · rw [List.eq_of_mem_replicate ha]
      exact h1 b (mem_blocks hb)
theorem sort_row {x : Str} (h : Row x) : sortS (sg x) = blocks (sg x) (ks x) := by
  have kl := ks_L h
  have nd := nd_ks x
  have p : (sg x).Perm (blocks (sg x) (ks x)) := List.perm_iff_count.mpr fun a => by
    rw [count_blocks _ _ _ nd]
    by_cases z : a ∈ ks x
    · rw [if_pos z]
    · rw [if_neg z, List.count_eq_zero.mpr fun q => z ((mem_ks x a).mpr q)]
  rw [sortS_eq p]
  refine List.mergeSort_of_pairwise (blocks_rise ?_)
  rw [kl]
  exact L_le.filter _
theorem join_blocks (ss : List Str) : ∀ ks : List Str, (∀ k ∈ ks, k.length = 1) → ((ks.map fun k => repS k (ss.count k)).map fun s => s.cps.toList).flatten = ((blocks ss ks).map fun s => s.cps.toList).flatten
  | [], _ => rfl
  | k :: r, h => by
    have ih := join_blocks ss r fun z hz => h z (List.mem_cons_of_mem _ hz)
    obtain ⟨c, rfl⟩ := one_of (h k List.mem_cons_self)
    unfold blocks at ih ⊢
    rw [List.map_cons, List.map_cons, List.flatten_cons, ih, List.flatMap_cons, List.map_append, List.flatten_append, rep_tl, List.map_replicate]
    congr 1
    generalize ss.count (⟨#[c]⟩ : Str) = n
    induction n with
    | zero => rfl
    | succ n ihn => rw [List.replicate_succ, List.replicate_succ, List.flatten_cons, ← ihn]; rfl
theorem row_text {x : Str} (h : Row x) : Txt.join "" ((ks x).map fun k => repS k ((sg x).count k)) = Txt.join "" (sortS (sg x)) := by
  rw [txt_join, txt_join]
  refine str_tl ?_
  rw [join_tl, join_tl, sort_row h, join_blocks _ _ fun k hk => len_L k (h.let' k ((mem_ks x k).mp hk))]
theorem tal_le (x k : Str) : 0 ≤ tal x k ∧ tal x k ≤ x.length := by
  unfold tal
  have := List.count_le_length (a := k) (l := sg x)
  rw [len_sg] at this
  omega
theorem good_row {x : Str} (h : Row x) : Good (canon (tal x)) := good_canon fun k => by
  have := tal_le x k
  have := h.few
  have : (1000 : Int) < 10 ^ 60 := by decide
  omega
theorem sort_canon {x : Str} (h : Row x) : sortS (keys (canon (tal x))) = ks x := by
  rw [sort_keys (ok_canon _).nd (ok_canon _).sub, ks_L h]
  refine List.filter_congr fun k hk => ?_
  rw [keys_canon]
  simp [List.mem_filter, hk, tal_ne]
theorem len_rep {k : Str} (h : k.length = 1) (n : Nat) : (repS k n).length = n := by
  obtain ⟨c, rfl⟩ := one_of h
  have := rep_tl c n
  have e : (repS ⟨#[c]⟩ n).length = (repS ⟨#[c]⟩ n).cps.toList.length := by simp [PySem.Str.length]
  rw [e, this, List.length_replicate]
theorem sum_le (f : Str → Nat) (m : Nat) (h : ∀ k, f k ≤ m) : ∀ ks : List Str, (ks.map f).sum ≤ ks.length * m
  | [] => by simp
  | k :: r => by
    have := sum_le f m h r
    have := h k
    rw [List.map_cons, List.sum_cons, List.length_cons, Nat.add_mul, Nat.one_mul]
    omega
theorem join_ok (ss : List Str) (h : (ss.map (·.length)).sum ≤ 16777216) : joinM (.str "") [.lst (ss.map D.str)] = some (.dat (.str (Txt.join "" ss))) := by
  have e0 : ("" : Str).length = 0 := by decide +kernel
  show ((strsOf (ss.map D.str)).bind _) = _
  rw [strsOf_map, Option.bind_some, if_pos (by rw [e0]; omega)]
theorem me_join {f : FE} {ρ ρ1 : EnvD} {ss : List Str} (h1 : f ρ = some (.own (.ml (ss.map D.str)), ρ1)) (h : (ss.map (·.length)).sum ≤ 16777216) : meF "str" (conD (.str "")) (consA f nilA) joinM ρ = some (.dat (.str (Txt.join "" ss)), ρ1) := by
  have c := cons_at (g := nilA) h1 rfl
  have j := join_ok ss h
  simp only [meF, conD, Option.bind_some, rd, tyN, if_true, c, rds, OV.d, j, SV.r]
theorem ks_len {x : Str} (h : Row x) : (ks x).length ≤ 12 := sub_len (nd_ks x) fun k hk => h.let' k ((mem_ks x k).mp hk)
theorem eqN_int (n : Nat) (i : Int) : eqN n (.int i) (.int i) = some true := by
  cases n <;> simp [eqN, eqLeaf, D.pd, PyData.depth, PyData.eqv]
theorem allO_true : ∀ l : List (Option Bool), (∀ o ∈ l, o = some true) → allO l = some true
  | [], _ => rfl
  | o :: r, h => by
    rw [h o List.mem_cons_self, allO, allO_true r fun z hz => h z (List.mem_cons_of_mem _ hz)]
    rfl
theorem eq_dC {c : C} (h : Ok c) : eqX (dC c) (dC c) = some true := by
  have nd := kv_nd h
  show (if ((kvC c).map (·.1)).Nodup ∧ ((kvC c).map (·.1)).Nodup then _ else none) = _
  rw [if_pos ⟨nd, nd⟩, allO_true _ fun o ho => by
    obtain ⟨kv, h1, rfl⟩ := List.mem_map.mp ho
    rw [get_mem nd h1]
    obtain ⟨p, _, rfl⟩ := List.mem_map.mp h1
    exact eqN_int 59 p.2]
  simp
theorem rowB_out {x z : Str} (h : z ∈ sg x) (n : z ∉ L) : rowB x = false := by
  rw [Bool.eq_false_iff]
  intro q
  exact n ((rowB_iff x).mp q z h)
def nearR (x : Str) : List D := [.str (x ++ "m"), .str (Txt.upper x ++ "A"), .lst ((sg x).map D.str), .tup [.str x], .non, .int 5, .str (x ++ " ")]
theorem len_of_app (a b : Str) : (a ++ b).length = a.length + b.length := len_app a b
abbrev ER (x : OV) (r o : Str) (s3 s4 : Option SV) : EnvD := [some (.own x), some (.dat (.str r)), some (.dat (.str o)), s3, s4]
theorem add_str {a b : Str} (h : a.length + b.length ≤ 1000000) : addD (.str a) (.str b) = some (.dat (.str (a ++ b))) := by
  have e : addD (.str a) (.str b) = if a.length + b.length ≤ sizeLine then some (.dat (.str (a ++ b))) else none := rfl
  rw [e, if_pos (by rw [sizeLine_eq]; omega)]
theorem sort_str {x : Str} (h : Row x) : sortF [.str x] = some (.own (.ml ((sortS (sg x)).map D.str))) := by
  have few := h.few
  have e : sortF [.str x] = (itemsD (.str x)).bind fun ds => (sortD ds).map fun es => .own (.ml es) := rfl
  have i : itemsD (.str x) = some ((sg x).map .str) := rfl
  rw [e, i, Option.bind_some, sortD_strs _ (by rw [len_sg, sizeLine_eq]; omega)]
  rfl
theorem tal_small (x : Str) (h : Row x) : ∀ p ∈ canon (tal x), p.2.natAbs.log2 < 1920 := small_canon fun k => by
  have := tal_le x k
  have := h.few
  have : (1000 : Nat) < 2 ^ 1900 := by decide +kernel
  omega
theorem row_app {a b : Str} (ha : Row a) (hb : Row b) (la : a.length ≤ 20) (lb : b.length ≤ 20) : Row (a ++ b) := ⟨by rw [len_of_app]; omega, fun s hs => by
  rw [sg_app] at hs
  rcases List.mem_append.mp hs with z | z
  · exact ha.let' s z
  · exact hb.let' s z⟩
theorem tal_app (a b k : Str) : tal (a ++ b) k = tal a k + tal b k := by
  unfold tal
  rw [sg_app, List.count_append]
  omega
theorem nil_eq : eqX (.lst []) (.lst []) = some true := rfl
theorem rng_mem {m : Nat} {d : D} (h : d ∈ rngL 0 m) : ∃ i : Nat, d = .int i ∧ i < m := by
  unfold rngL at h
  obtain ⟨i, h1, rfl⟩ := List.mem_map.mp h
  exact ⟨i, by simp, List.mem_range.mp h1⟩
/-- a loop with a count of its turns -/
theorem loop_cnt {R vs : List Nat} {g : FG} {body : FS} (I : Nat → EnvD → Prop) (hv : ∀ i ∈ vs, i ∉ R) : ∀ (items : List D) (i : Nat) (ρ : EnvD), (∀ d ∈ items, ∀ j, j < i + items.length → ∀ ρ, I j ρ → ∃ ρ1 ρ2, g d ρ = some ρ1 ∧ body ρ1 = some (.next, ρ2) ∧ I (j + 1) ρ2) → I i ρ → ∃ ρ', loopF R vs g body items ρ = some (.next, ρ') ∧ I (i + items.length) ρ'
  | [], i, ρ, _, h => ⟨ρ, rfl, h⟩
  | d :: r, i, ρ, st, h => by
    obtain ⟨ρ1, ρ2, h1, h2, h3⟩ := st d List.mem_cons_self i (by rw [List.length_cons]; omega) ρ h
    obtain ⟨ρ', h4, h5⟩ := loop_cnt I hv r (i + 1) ρ2 (fun x hx j hj => st x (List.mem_cons_of_mem _ hx) j (by rw [List.length_cons]; omega)) h3
    refine ⟨ρ', ?_, by rw [List.length_cons]; have : i + (r.length + 1) = i + 1 + r.length := by omega
                       rw [this]; exact h5⟩
    rw [loopF, if_pos hv, h1, Option.bind_some, h2, Option.bind_some]
    exact h4
/-- a call with the own thing of the slot j -/
theorem callR_j {F : FR} {n j : Nat} {rest : FA} {x y y' : OV} {ρ ρ1 : EnvD} {ds : List D} {z : SV} (h0 : ρ[j]? = some (some (.own x))) (h1 : rest ρ = some (ds.map .dat, ρ1)) (h3 : ρ1[j]? = some (some (.own y))) (hl : ds.length + 1 = n) (h2 : F y ds = some (z, y')) : callR (gdR n F) (consA (varD j) rest) ρ = some (z.r, ρ1.set j (some (.own y'))) := by
  have hv : varD j ρ = some (.slot j, ρ) := by
    unfold varD
    rw [h0]
  have hd : ∀ l : List D, datA (l.map .dat) = some l := by
    intro l
    induction l with
    | nil => rfl
    | cons d l ih => simp [datA, ih]
  simp only [callR, consA, hv, h1, Option.bind_some, h3, hd, gdR, hl, if_true, h2]
theorem ev_dice (ns : List Int) (i : Nat) (hi : i < 3) : ∃ x, m__law_dice [.scr ns, .int i] = some (.own x) ∧ Dice 0 x := by
  have e : m__law_dice [.scr ns, .int (i : Int)] = (b__law_dice [some (.dat (.scr ns)), some (.dat (.int i)), none, none]).bind fin := rfl
  have s1 : ∃ c : Int, setF [] 2 (fzD [] (ifF (tstF (bin2 (varD 1) (callF (consA (varD 0) nilA) lenS) ltD)) (callF (consA (bin2 (varD 0) (varD 1) ixD) nilA) intF) (fzD [] (bin2 (bin2 (conD (.int 89)) (varD 1) mulD) (conD (.int 31)) addD)))) [some (.dat (.scr ns)), some (.dat (.int i)), none, none] = some (.next, [some (.dat (.scr ns)), some (.dat (.int i)), some (.dat (.int c)), none]) := by
    have lf : lenS [.scr ns] = some (.dat (.int ns.length)) := rfl
    have ct : tstF (bin2 (varD 1) (callF (consA (varD 0) nilA) lenS) ltD) [some (.dat (.scr ns)), some (.dat (.int i)), none, none] = some (decide ((i : Int) < ns.length), [some (.dat (.scr ns)), some (.dat (.int i)), none, none]) := tst_at (bin_at (z := .dat (.bl (decide ((i : Int) < ns.length)))) rfl (call1 rfl rfl lf) rfl rfl rfl)
    by_cases hl : i < ns.length
    · have at' : atI ns (i : Int) = some ns[i] := atI_nat (j := i) (List.getElem?_eq_getElem hl)
      have ix : ixD (.scr ns) (.int (i : Int)) = some (.dat (.int ns[i])) := by
        show (atI ns (i : Int)).map _ = _
        rw [at']
        rfl
      refine ⟨ns[i], set_dat (ρ1 := [some (.dat (.scr ns)), some (.dat (.int i)), none, none]) (fz_d ?_) rfl⟩
      have tt : decide ((i : Int) < ns.length) = true := decide_eq_true (by omega)
      rw [tt] at ct
      unfold ifF
      rw [ct, Option.bind_some, if_pos rfl]
      exact call1 (z := .dat (.int ns[i])) (bin_at (z := .dat (.int ns[i])) rfl rfl rfl rfl ix) rfl rfl
    · refine ⟨89 * i + 31, set_dat (ρ1 := [some (.dat (.scr ns)), some (.dat (.int i)), none, none]) (fz_d ?_) rfl⟩
      have tt : decide ((i : Int) < ns.length) = false := decide_eq_false (by omega)
      rw [tt] at ct
      have m1 : mulD (.int 89) (.int (i : Int)) = some (.dat (.int (89 * i))) := mul_ok (by decide) (by have : (3 : Nat) < 2 ^ 250 := by decide
                                                                                                        omega)
      unfold ifF
      rw [ct, Option.bind_some, if_neg Bool.false_ne_true]
      exact fz_d (bin_at (z := .dat (.int (89 * i + 31))) (bin_at (z := .dat (.int (89 * i))) rfl rfl rfl rfl m1) rfl rfl rfl rfl)
  obtain ⟨c, s1⟩ := s1
  have p1 : (0 : Int) < 10 ^ 60 * 10 ^ 60 := by decide
  have p2 : (0 : Int) < 1152921504606846883 := by decide
  have o1 := Int.emod_nonneg (if c < 0 then -c else c) (Int.ne_of_gt p2)
  have o2 := Int.emod_lt_of_pos (if c < 0 then -c else c) p2
  have big : (1152921504606846883 : Nat) < 2 ^ 250 := by decide
  have m1 : mulD (.int ((if c < 0 then -c else c) % 1152921504606846883)) (.int 43) = some (.dat (.int ((if c < 0 then -c else c) % 1152921504606846883 * 43))) := mul_ok (by omega) (by decide)
  have m2 : mulD (.int 911) (.int (i : Int)) = some (.dat (.int (911 * i))) := mul_ok (by decide) (by omega)
  have m3 : ∀ b : Bool, mulD (.int 37) (.int (if b = true then 1 else 0)) = some (.dat (.int (37 * (if b = true then 1 else 0)))) := fun b => mul_ok (by decide) (by cases b <;> decide)
  have m4 : mulD (.int (10 ^ 60)) (.int (10 ^ 60)) = some (.dat (.int (10 ^ 60 * 10 ^ 60))) := mul_ok (by decide) (by decide)
  have pw : ∀ ρ : EnvD, bin2 (conD (.int 10)) (conD (.int 60)) powD ρ = some (.dat (.int (10 ^ 60)), ρ) := fun ρ => rfl
  have pw2 : ∀ ρ : EnvD, bin2 (conD (.int 10)) (conD (.int 16)) powD ρ = some (.dat (.int (10 ^ 16)), ρ) := fun ρ => rfl
  have ab : ∀ v : Option SV, callF (consA (varD 2) nilA) absF [some (.dat (.scr ns)), some (.dat (.int i)), some (.dat (.int c)), v] = some (.dat (.int (if c < 0 then -c else c)), [some (.dat (.scr ns)), some (.dat (.int i)), some (.dat (.int c)), v]) := fun v => call1 (z := .dat (.int (if c < 0 then -c else c))) rfl rfl rfl
  have s2 : ∃ w : Int, setF [] 3 (bin2 (callF (consA (conD (.int 0)) (consA (bin2 (callF (consA (varD 2) nilA) absF) (bin2 (conD (.int 10)) (conD (.int 16)) powD) subD) nilA)) maxF) (bin2 (bin2 (conD (.int 10)) (conD (.int 60)) powD) (bin2 (conD (.int 10)) (conD (.int 60)) powD) mulD) modD) [some (.dat (.scr ns)), some (.dat (.int i)), some (.dat (.int c)), none] = some (.next, [some (.dat (.scr ns)), some (.dat (.int i)), some (.dat (.int c)), some (.dat (.int w))]) := by
    have a1 := bin_at (F := subD) (z := .dat (.int ((if c < 0 then -c else c) - 10 ^ 16))) (ab none) (pw2 _) rfl rfl rfl
    have cc := cons_at (f := conD (.int 0)) rfl (cons_at (g := nilA) a1 rfl)
    have a2 : callF (consA (conD (.int 0)) (consA (bin2 (callF (consA (varD 2) nilA) absF) (bin2 (conD (.int 10)) (conD (.int 16)) powD) subD) nilA)) maxF [some (.dat (.scr ns)), some (.dat (.int i)), some (.dat (.int c)), none] = some (.dat (.int (if (if c < 0 then -c else c) - 10 ^ 16 > 0 then (if c < 0 then -c else c) - 10 ^ 16 else 0)), [some (.dat (.scr ns)), some (.dat (.int i)), some (.dat (.int c)), none]) := by
      simp only [callF, cc, Option.bind_some, rds, rd, SV.r, maxF]
    exact ⟨_, set_dat (bin_at (F := modD) (z := .dat (.int ((if (if c < 0 then -c else c) - 10 ^ 16 > 0 then (if c < 0 then -c else c) - 10 ^ 16 else 0) % (10 ^ 60 * 10 ^ 60)))) a2 (bin_at (z := .dat (.int (10 ^ 60 * 10 ^ 60))) (pw _) (pw _) rfl rfl m4) rfl rfl (mod_ok p1)) rfl⟩
  obtain ⟨w, s2⟩ := s2
  have last : ∃ a b : Int, retF (lstF (consA (fzD [] (varD 3)) (consA (fzD [] (bin2 (bin2 (bin2 (bin2 (bin2 (callF (consA (varD 2) nilA) absF) (conD (.int 1152921504606846883)) modD) (conD (.int 43)) mulD) (bin2 (conD (.int 911)) (varD 1) mulD) addD) (bin2 (conD (.int 37)) (callF (consA (bin2 (varD 2) (conD (.int 0)) ltD) nilA) intF) mulD) addD) (conD (.int 17)) addD)) (consA (conD (.int 0)) nilA)))) [some (.dat (.scr ns)), some (.dat (.int i)), some (.dat (.int c)), some (.dat (.int w))] = some (.ret (.own (.ml [.int a, .int b, .int 0])), [some (.dat (.scr ns)), some (.dat (.int i)), some (.dat (.int c)), some (.dat (.int w))]) := by
    have b1 := bin_at (F := modD) (z := .dat (.int ((if c < 0 then -c else c) % 1152921504606846883))) (g := conD (.int 1152921504606846883)) (ab (some (.dat (.int w)))) rfl rfl rfl (mod_ok p2)
    have b2 := bin_at (F := mulD) (g := conD (.int 43)) (z := .dat (.int ((if c < 0 then -c else c) % 1152921504606846883 * 43))) b1 rfl rfl rfl m1
    have b3 := bin_at (F := mulD) (f := conD (.int 911)) (g := varD 1) (ρ := [some (.dat (.scr ns)), some (.dat (.int i)), some (.dat (.int c)), some (.dat (.int w))]) (z := .dat (.int (911 * i))) rfl rfl rfl rfl m2
    have b4 := bin_at (F := addD) (z := .dat (.int ((if c < 0 then -c else c) % 1152921504606846883 * 43 + 911 * i))) b2 b3 rfl rfl rfl
    have b5 := call1 (F := intF) (z := .dat (.int (if decide (c < 0) = true then 1 else 0))) (bin_at (F := ltD) (f := varD 2) (g := conD (.int 0)) (ρ := [some (.dat (.scr ns)), some (.dat (.int i)), some (.dat (.int c)), some (.dat (.int w))]) (z := .dat (.bl (decide (c < 0)))) rfl rfl rfl rfl rfl) rfl rfl
    have b6 := bin_at (F := mulD) (f := conD (.int 37)) (z := .dat (.int (37 * (if decide (c < 0) = true then 1 else 0)))) rfl b5 rfl rfl (m3 _)
    have b7 := bin_at (F := addD) (z := .dat (.int ((if c < 0 then -c else c) % 1152921504606846883 * 43 + 911 * i + 37 * (if decide (c < 0) = true then 1 else 0)))) b4 b6 rfl rfl rfl
    have b8 := bin_at (F := addD) (g := conD (.int 17)) (z := .dat (.int ((if c < 0 then -c else c) % 1152921504606846883 * 43 + 911 * i + 37 * (if decide (c < 0) = true then 1 else 0) + 17))) b7 rfl rfl rfl rfl
    have cc := cons_at (f := fzD [] (varD 3)) (fz_dat rfl) (cons_at (fz_d (R := []) b8) (cons_at (f := conD (.int 0)) (g := nilA) rfl rfl))
    refine ⟨w, (if c < 0 then -c else c) % 1152921504606846883 * 43 + 911 * i + 37 * (if decide (c < 0) = true then 1 else 0) + 17, ?_⟩
    simp only [retF, lstF, cc, Option.bind_some, datA, SV.r]
    rw [if_pos (by rw [sizeLine_eq]; show 3 ≤ 16777216; decide)]
    rfl
  obtain ⟨a, b, last⟩ := last
  refine ⟨.ml [.int a, .int b, .int 0], ?_, a, b, 0, rfl, Int.le_refl 0, Int.le_refl 0⟩
  have all := seq_at s1 (seq_at s2 last)
  rw [e]
  unfold b__law_dice
  rw [all]
  rfl
abbrev E7 (ns : List Int) (s1 s2 s3 s4 s5 s6 : Option SV) : EnvD := [some (.dat (.scr ns)), s1, s2, s3, s4, s5, s6]
theorem good_nil : Good [] := ⟨⟨List.nodup_nil, fun _ h => nomatch h⟩, fun _ h => nomatch h⟩
theorem canon_zero {f : Str → Int} (h : ∀ k ∈ L, f k = 0) : canon f = [] := by
  unfold canon
  rw [List.filter_eq_nil_iff.mpr fun k hk => by simp [h k hk]]
  rfl
theorem not_ff {f : FT} {ρ ρ1 : EnvD} (h : f ρ = some (true, ρ1)) : notT f ρ = some (false, ρ1) := not_at h
theorem set_env {R : List Nat} {i : Nat} {f : FE} {ρ ρ1 ρ2 : EnvD} {y : D} (h : f ρ = some (.dat y, ρ1)) (h2 : putS R i (.dat y) ρ1 = some ρ2) : setF R i f ρ = some (.next, ρ2) := set_dat h h2
theorem ok_dec {c : C} (h1 : (keys c).Nodup) (h2 : ∀ k ∈ keys c, k ∈ L) : Ok c := ⟨h1, h2⟩
theorem good_dec {c : C} (h1 : (keys c).Nodup) (h2 : ∀ k ∈ keys c, k ∈ L) (h3 : ∀ p ∈ c, 0 < p.2 ∧ p.2 < 10 ^ 60) : Good c := ⟨⟨h1, h2⟩, h3⟩
/-- a display of two entries, of one -/
theorem dsp2 {ρ : EnvD} {k l : Str} {fv fw : FE} {v w : Int} (h1 : fv ρ = some (.dat (.int v), ρ)) (h2 : fw ρ = some (.dat (.int w), ρ)) (ne : k ≠ l) : dspF (consP (conD (.str k)) fv (consP (conD (.str l)) fw nilP)) ρ = some (.own (.mK (kvC [(k, v), (l, w)])), ρ) := by
  have m : mergeD [] [((.inr k : Key), D.int v), (.inr l, .int w)] = [(.inr k, .int v), (.inr l, .int w)] := merge_fresh [((.inr k : Key), D.int v), (.inr l, .int w)] [] (by simp [ne])
  simp only [dspF, consP, conD, toKey, Option.bind_some, h1, h2, nilP, List.length_cons, List.length_nil]
  rw [if_pos (by omega), m]
  rfl
theorem dsp1 {ρ : EnvD} {k : Str} {fv : FE} {v : Int} (h1 : fv ρ = some (.dat (.int v), ρ)) : dspF (consP (conD (.str k)) fv nilP) ρ = some (.own (.mK (kvC [(k, v)])), ρ) := by
  have m : mergeD [] [((.inr k : Key), D.int v)] = [(.inr k, .int v)] := merge_fresh [((.inr k : Key), D.int v)] [] (by simp)
  simp only [dspF, consP, conD, toKey, Option.bind_some, h1, nilP, List.length_cons, List.length_nil]
  rw [if_pos (by omega), m]
  rfl
theorem row_abba : Row "abba" := ⟨by decide +kernel, by decide +kernel⟩
theorem tal_abba : canon (tal "abba") = ([("a", 2), ("b", 2)] : C) := by decide +kernel
abbrev cCA : C := [("c", 2), ("a", 1)]
theorem good_ca : Good cCA := good_dec (by decide +kernel) (by decide +kernel) (by decide +kernel)
abbrev toldL : List D := [dC [("a", 2), ("b", 2)], .str "acc", .int 7, dC [("a", 2), ("b", 2)]]
theorem sh_told : Sh (.lst toldL) 1000 10 := ⟨_, rfl, by decide +kernel, by decide +kernel, by decide +kernel⟩
theorem good_al : Good [("a", 3), ("l", 4)] := good_dec (by decide +kernel) (by decide +kernel) (by decide +kernel)
theorem good_b : Good [("b", 1)] := good_dec (by decide +kernel) (by decide +kernel) (by decide +kernel)
theorem good_ab : Good [("a", 2), ("b", 1)] := good_dec (by decide +kernel) (by decide +kernel) (by decide +kernel)
theorem good_a : Good [("a", 5)] := good_dec (by decide +kernel) (by decide +kernel) (by decide +kernel)
theorem good_far : Good [("b", 10 ^ 60 - 1), ("a", 1)] := good_dec (by decide +kernel) (by decide +kernel) (by decide +kernel)
theorem sum_bb : canon (fun k => val [("b", 1)] k + val [("a", 2), ("b", 1)] k) = ([("a", 2), ("b", 2)] : C) := by decide +kernel
theorem dif_ab : canon (fun k => val [("a", 5)] k - val [("a", 2), ("b", 1)] k) = ([("a", 3), ("b", -1)] : C) := by decide +kernel
theorem ok_ab3 : Ok [("a", 3), ("b", -1)] := ok_dec (by decide +kernel) (by decide +kernel)
theorem len_min (n : Nat) : (if (if (n : Int) < 3 then (n : Int) else 3) > 1 then (if (n : Int) < 3 then (n : Int) else 3) else 1).toNat ≤ 3 ∧ -(2 ^ 62) ≤ (if (if (n : Int) < 3 then (n : Int) else 3) > 1 then (if (n : Int) < 3 then (n : Int) else 3) else 1) ∧ (if (if (n : Int) < 3 then (n : Int) else 3) > 1 then (if (n : Int) < 3 then (n : Int) else 3) else 1) < 2 ^ 62 := by
  have q : (4 : Int) < 2 ^ 62 := by decide
  split <;> split <;> omega
end KA

/-! MA: machines, plainly; what is a machine. -/
namespace KA
open DL L2 PySem PySem.Spec PyProof.Rows LawT

structure E4 where
  p : Nat
  r : Str
  g : Nat
  m : Str
def key (e : E4) : List Key := [.inl (e.p : Int), .inr e.r]
def goal (e : E4) : D := .tup [.int (e.g : Int), .str e.m]
def kvM (es : List E4) : List (List Key × D) := es.map fun e => (key e, goal e)
def mD (n : Nat) (es : List E4) : D := .tup [.int (n : Int), .dT (kvM es)]
def spot (e : E4) : Nat × Str := (e.p, e.r)
def spotD (e : E4) : D := .tup [.int (e.p : Int), .str e.r]
structure Mail (m : Str) : Prop where
  let' : ∀ s ∈ sg m, s ∈ L
  asc : (sg m).Pairwise fun a b => leS a b = true
  few : m.length ≤ 200
structure Mach (n : Nat) (rs : List Str) (es : List E4) : Prop where
  n0 : 1 ≤ n
  n1 : n ≤ 2000
  rL : ∀ r ∈ rs, r ∈ L
  rN : rs.Nodup
  r8 : rs.length ≤ 8
  nd : (es.map spot).Nodup
  mem : ∀ p r, (p, r) ∈ es.map spot ↔ p < n ∧ r ∈ rs
  ok : ∀ e ∈ es, e.g < n ∧ Mail e.m
theorem Mach.at {n : Nat} {rs : List Str} {es : List E4} (h : Mach n rs es) {e : E4} (he : e ∈ es) : e.p < n ∧ e.r ∈ rs := (h.mem e.p e.r).mp (List.mem_map.mpr ⟨e, he, rfl⟩)
theorem keysT_key (e : E4) : keysT (key e) = spotD e := rfl
theorem items_dT (es : List E4) : itemsD (.dT (kvM es)) = some (es.map spotD) := by
  simp [itemsD, kvM, List.map_map, Function.comp_def, keysT_key]
theorem prod_len {α : Type} {rs : List α} (h : rs.Nodup) (n : Nat) : ((List.range n).flatMap fun p => rs.map fun r => (p, r)).length = n * rs.length ∧ ((List.range n).flatMap fun p => rs.map fun r => (p, r)).Nodup := by
  constructor
  · rw [List.length_flatMap]
    simp only [List.length_map]
    rw [List.map_const', List.sum_replicate_nat, List.length_range]
  · refine List.pairwise_flatMap.mpr ⟨fun p _ => ?_, ?_⟩
    · exact List.Pairwise.map _ (fun a b ne z => ne (Prod.mk.inj z).2) h
    · refine List.Pairwise.imp ?_ List.nodup_range
      intro a b ne x hx y hy e
      obtain ⟨r, _, rfl⟩ := List.mem_map.mp hx
      obtain ⟨q, _, rfl⟩ := List.mem_map.mp hy
      exact ne (Prod.mk.inj e).1
theorem Mach.len {n : Nat} {rs : List Str} {es : List E4} (h : Mach n rs es) : es.length = n * rs.length := by
  obtain ⟨l, nd⟩ := prod_len h.rN n
  have p : (es.map spot).Perm ((List.range n).flatMap fun p => rs.map fun r => (p, r)) := (List.perm_ext_iff_of_nodup h.nd nd).mpr fun ⟨a, b⟩ => by
    rw [h.mem a b, List.mem_flatMap]
    constructor
    · rintro ⟨h1, h2⟩
      exact ⟨a, List.mem_range.mpr h1, List.mem_map.mpr ⟨b, h2, rfl⟩⟩
    · rintro ⟨c, h1, h2⟩
      obtain ⟨d, h3, e⟩ := List.mem_map.mp h2
      cases e
      exact ⟨List.mem_range.mp h1, h3⟩
  have := p.length_eq
  rw [l, List.length_map] at this
  exact this
/-- the letters of a machine, as they are met -/
def met (es : List E4) : List Str := dedupS (es.map (·.r))
theorem mem_met (es : List E4) (r : Str) : r ∈ met es ↔ ∃ e ∈ es, e.r = r := by
  unfold met dedupS
  rw [mem_dedup]
  simp
theorem nd_met (es : List E4) : (met es).Nodup := nd_dedup _ _ List.nodup_nil
theorem Mach.met {n : Nat} {rs : List Str} {es : List E4} (h : Mach n rs es) (r : Str) : r ∈ KA.met es ↔ r ∈ rs := by
  rw [mem_met]
  constructor
  · rintro ⟨e, he, rfl⟩
    exact (h.at he).2
  · intro hr
    obtain ⟨e, he, e2⟩ := List.mem_map.mp ((h.mem 0 r).mpr ⟨h.n0, hr⟩)
    exact ⟨e, he, (Prod.mk.inj e2).2⟩
theorem Mach.metLen {n : Nat} {rs : List Str} {es : List E4} (h : Mach n rs es) : (KA.met es).length = rs.length :=
  ((List.perm_ext_iff_of_nodup (nd_met es) h.rN).mpr fun r => h.met r).length_eq
/-! ### steps -/
theorem un_at {f : FE} {F : D → Option SV} {ρ ρ1 : EnvD} {r : RV} {d : D} {z : SV} (h1 : f ρ = some (r, ρ1)) (h2 : rd ρ1 r = some d) (h3 : F d = some z) : un1 f F ρ = some (z.r, ρ1) := by
  simp only [un1, h1, Option.bind_some, h2, h3]
theorem callP3 {F : FP} {f g h : FE} {ρ : EnvD} {d e i : D} {z : SV} (h1 : f ρ = some (.dat d, ρ)) (h2 : g ρ = some (.dat e, ρ)) (h3 : h ρ = some (.dat i, ρ)) (hF : F [d, e, i] = some z) : callP (gdP 3 F) (consA f (consA g (consA h nilA))) ρ = some (z.r, ρ) := by
  have c := cons_at h1 (cons_at h2 (cons_at (g := nilA) h3 rfl))
  simp only [callP, c, Option.bind_some, datA, gdP, List.length_cons, List.length_nil, if_true, hF]
theorem ev_pair2 (a b : D) : m_is_pair [.tup [a, b]] = some (.dat (.bl true)) := by
  have e : m_is_pair [.tup [a, b]] = (b_is_pair [some (.dat (.tup [a, b]))]).bind fin := rfl
  have main : b_is_pair [some (.dat (.tup [a, b]))] = some (.ret (.dat (.bl true)), [some (.dat (.tup [a, b]))]) := by
    unfold b_is_pair
    exact ret_dat (and_tt (un_at (z := .dat (.bl true)) rfl rfl (by simp [isiD, isSetD, isiB, tyN])) (bin_at (z := .dat (.bl true)) (call1 (z := .dat (.int 2)) rfl rfl rfl) rfl rfl rfl rfl))
  rw [e, main]
  rfl
theorem ev_within (i lo hi : Int) : m_is_within [.int i, .int lo, .int hi] = some (.dat (.bl (decide (lo ≤ i) && decide (i ≤ hi)))) := by
  have e : m_is_within [.int i, .int lo, .int hi] = (b_is_within [some (.dat (.int i)), some (.dat (.int lo)), some (.dat (.int hi))]).bind fin := rfl
  have w := ev_whole (.int i) rfl
  rw [e]
  simp only [b_is_within, retF, andV, callP, gdP, consA, nilA, fzD, varD, datA, List.getElem?_cons_zero, List.getElem?_cons_succ, Option.bind_some, List.length_singleton, if_true, w, SV.r, whoB, chain3, rd, leD]
  by_cases z : lo ≤ i
  · simp [z, fin]
  · simp [z, fin]
theorem ev_step_key {p n : Nat} {r : Str} (hp : p < n) (hr : r ∈ L) : m_is_step_key [.tup [.int (p : Int), .str r], .int (n : Int)] = some (.dat (.bl true)) := by
  have e : m_is_step_key [.tup [.int (p : Int), .str r], .int (n : Int)] = (b_is_step_key [some (.dat (.tup [.int (p : Int), .str r])), some (.dat (.int (n : Int)))]).bind fin := rfl
  have w : m_is_within [.int (p : Int), .int 0, .int ((n : Int) - 1)] = some (.dat (.bl true)) := by
    rw [ev_within, decide_eq_true (by omega : (0 : Int) ≤ p), decide_eq_true (by omega : (p : Int) ≤ n - 1)]
    rfl
  have l := ev_letter (.str r) (leaf_L hr)
  rw [let_L r hr] at l
  have main : b_is_step_key [some (.dat (.tup [.int (p : Int), .str r])), some (.dat (.int (n : Int)))] = some (.ret (.dat (.bl true)), [some (.dat (.tup [.int (p : Int), .str r])), some (.dat (.int (n : Int)))]) := by
    unfold b_is_step_key
    refine ret_dat (and_tt (callP1 (fz_dat rfl) (ev_pair2 _ _)) (and_tt (callP3 (d := .int (p : Int)) (e := .int 0) (i := .int ((n : Int) - 1)) ?_ rfl ?_ w) (callP1 (d := .str r) ?_ l)))
    · exact bin_at (z := .dat (.int (p : Int))) rfl rfl rfl rfl rfl
    · exact bin_at (z := .dat (.int ((n : Int) - 1))) rfl rfl rfl rfl rfl
    · exact bin_at (z := .dat (.str r)) rfl rfl rfl rfl rfl
  rw [e, main]
  rfl
theorem eqN_str (n : Nat) (s : Str) : eqN n (.str s) (.str s) = some true := by
  cases n <;> simp [eqN, eqLeaf, D.pd, PyData.depth, PyData.eqv]
theorem zip_same {f : D → D → Option Bool} (h : ∀ d, f d d = some true) : ∀ ds : List D, allO (List.zipWith f ds ds) = some true
  | [] => rfl
  | d :: ds => by
    rw [List.zipWith_cons_cons, allO, h d, zip_same h ds]
    rfl
theorem eq_strs_refl (l : List Str) : eqX (.lst (l.map D.str)) (.lst (l.map D.str)) = some true := by
  have e : eqX (.lst (l.map D.str)) (.lst (l.map D.str)) = if (l.map D.str).length = (l.map D.str).length then allO (List.zipWith (eqN 59) (l.map D.str) (l.map D.str)) else some false := rfl
  rw [e, if_pos rfl]
  induction l with
  | nil => rfl
  | cons s l ih =>
    rw [List.map_cons, List.zipWith_cons_cons, allO, eqN_str, ih]
    · rfl
    · rfl
theorem list_str {x : Str} (h : x.length ≤ 1000000) : listF [.str x] = some (.own (.ml ((sg x).map D.str))) := by
  have e : listF [.str x] = (itemsD (.str x)).bind fun ds => if ds.length ≤ sizeLine then some (.own (.ml ds)) else none := rfl
  have i : itemsD (.str x) = some ((sg x).map .str) := rfl
  rw [e, i, Option.bind_some, if_pos (by rw [List.length_map, len_sg, sizeLine_eq]; omega)]
theorem sort_strs {x : Str} (h : x.length ≤ 1000000) : sortF [.str x] = some (.own (.ml ((sortS (sg x)).map D.str))) := by
  have e : sortF [.str x] = (itemsD (.str x)).bind fun ds => (sortD ds).map fun es => .own (.ml es) := rfl
  have i : itemsD (.str x) = some ((sg x).map .str) := rfl
  rw [e, i, Option.bind_some, sortD_strs _ (by rw [len_sg, sizeLine_eq]; omega)]
  rfl
theorem Mail.sorted {m : Str} (h : Mail m) : sortS (sg m) = sg m := List.mergeSort_of_pairwise h.asc
theorem len_str {x : Str} (h : x.length ≤ 1000000) : lenS [.str x] = some (.dat (.int x.length)) := by
  show lenF [.str x] = _
  have : x.length ≤ sizeLine := by rw [sizeLine_eq]; omega
  simp [lenF, this]
theorem ev_mail {m : Str} (h : Mail m) : m_is_mail [.str m] = some (.dat (.bl true)) := by
  have few := h.few
  have e : m_is_mail [.str m] = (b_is_mail [some (.dat (.str m))]).bind fin := rfl
  have l := ev_letters m (by rw [signs_len, sizeLine_eq]; omega)
  rw [(rowB_iff m).mpr h.let'] at l
  have s := sort_strs (x := m) (by omega)
  rw [h.sorted] at s
  have main : b_is_mail [some (.dat (.str m))] = some (.ret (.dat (.bl true)), [some (.dat (.str m))]) := by
    unfold b_is_mail
    refine ret_dat (and_tt (callP1 (fz_dat rfl) l) (and_tt (bin_at (z := .dat (.bl true)) (call1 rfl rfl (len_str (by omega))) rfl rfl rfl ?_) (bin_at (z := .dat (.bl true)) (call1 rfl rfl (list_str (by omega))) (call1 rfl rfl s) rfl rfl ?_)))
    · show some (SV.dat (.bl (decide ((m.length : Int) ≤ 200)))) = _
      rw [decide_eq_true (by omega)]
    · simp only [OV.d, asB, eq_strs_refl, Option.map_some]
      rfl
  rw [e, main]
  rfl
/-- a set comprehension of letters -/
theorem compA_set {β : Type} {vs : List Nat} {g : FG} {f : FE} {ρ : EnvD} (enc : β → D) (e : β → Str) : ∀ (items : List β) (acc : List Str), (∀ b ∈ items, ∃ ρ1, g (enc b) ρ = some ρ1 ∧ wipeD ρ1 vs = ρ ∧ f ρ1 = some (.dat (.str (e b)), ρ1) ∧ e b ∈ L) → acc.Nodup → (∀ k ∈ acc, k ∈ L) →
    compA vs g yesT (stepS f) (items.map enc) acc ρ = some ((items.map e).foldl addS acc, ρ)
  | [], acc, _, _, _ => rfl
  | b :: r, acc, h, nd, sub => by
    obtain ⟨ρ1, h1, h2, h3, h4⟩ := h b List.mem_cons_self
    have l := sub_len nd sub
    have sb : 100 < scanBound := by decide
    have st : stepS f acc ρ1 = some (addS acc (e b), ρ1) := by
      simp only [stepS, h3, Option.bind_some]
      rw [if_pos (by omega)]
    have ih := compA_set enc e r (addS acc (e b)) (fun x hx => h x (List.mem_cons_of_mem _ hx)) (addS_nodup nd) fun k hk => by
      unfold addS at hk
      split at hk
      · exact sub k hk
      · rcases List.mem_append.mp hk with z | z
        · exact sub k z
        · rw [List.mem_singleton.mp z]; exact h4
    rw [List.map_cons, compA, h1, Option.bind_some]
    show ((stepS f acc ρ1).bind fun p => compA vs g yesT (stepS f) (r.map enc) p.1 (wipeD p.2 vs)) = _
    rw [st, Option.bind_some, h2, ih, List.map_cons, List.foldl_cons]
theorem sc_at {β : Type} {vs : List Nat} {fi : FI} {g : FG} {f : FE} {ρ ρ1 : EnvD} (enc : β → D) (e : β → Str) (items : List β) (hi : fi ρ = some (items.map enc, ρ1)) (hn : noneAt ρ1 vs = true) (h : ∀ b ∈ items, ∃ ρ2, g (enc b) ρ1 = some ρ2 ∧ wipeD ρ2 vs = ρ1 ∧ f ρ2 = some (.dat (.str (e b)), ρ2) ∧ e b ∈ L) :
    scF vs fi g yesT f ρ = some (.dat (.sS (dedupS (items.map e))), ρ1) := by
  have c := compA_set enc e items [] h List.nodup_nil (fun _ h => nomatch h)
  simp only [scF, hi, Option.bind_some, hn, if_true, c]
  rfl
end KA

/-! MB: what is drawn is a machine for the program; letters that are read and sent. -/
namespace KA
open DL L2 PySem PySem.Spec PyProof.Rows LawT

theorem if_tt {c : FT} {f g : FS} {ρ ρ1 : EnvD} {out : Option (FlowD × EnvD)} (h : c ρ = some (true, ρ1)) (h2 : f ρ1 = out) : ifS c f g ρ = out := by
  simp only [ifS, h, Option.bind_some, if_true, h2]
theorem all_true {β : Type} (l : List β) : allF [.lst (l.map fun _ => D.bl true)] = some (.dat (.bl true)) := by
  have a := all_bls (l.map fun _ => true)
  rw [List.map_map] at a
  rw [show (l.map fun _ => D.bl true) = l.map (D.bl ∘ fun _ => true) from rfl, a]
  simp
theorem var_dat {i : Nat} {ρ : EnvD} {d : D} (h : ρ[i]? = some (some (.dat d))) : varD i ρ = some (.dat d, ρ) := by
  simp only [varD, h]
abbrev V9 (n : Nat) (es : List E4) (s1 s2 s3 s4 : Option SV) : EnvD := [some (.dat (mD n es)), s1, s2, s3, s4, none, none, none, none]
theorem Mach.small {n : Nat} {rs : List Str} {es : List E4} (h : Mach n rs es) : es.length ≤ 16000 := by
  rw [h.len]
  exact Nat.le_trans (Nat.mul_le_mul h.n1 h.r8) (by decide)
theorem ev_is_machine {n : Nat} {rs : List Str} {es : List E4} (h : Mach n rs es) : m_is_machine [mD n es] = some (.dat (.bl true)) := by
  have e : m_is_machine [mD n es] = (b_is_machine (V9 n es none none none none)).bind fin := rfl
  have sm := h.small
  have n0 := h.n0
  have n1 := h.n1
  have r8 := h.r8
  have w1 : m_is_within [.int (n : Int), .int 1, .int 2000] = some (.dat (.bl true)) := by
    rw [ev_within, decide_eq_true (by omega : (1 : Int) ≤ n), decide_eq_true (by omega : (n : Int) ≤ 2000)]
    rfl
  have ix0 : ∀ ρ : EnvD, ρ[0]? = some (some (.dat (mD n es))) → bin2 (varD 0) (conD (.int 0)) ixD ρ = some (.dat (.int (n : Int)), ρ) := fun ρ hρ => bin_at (z := .dat (.int (n : Int))) (var_dat hρ) rfl rfl rfl rfl
  have ix1 : ∀ ρ : EnvD, ρ[0]? = some (some (.dat (mD n es))) → bin2 (varD 0) (conD (.int 1)) ixD ρ = some (.dat (.dT (kvM es)), ρ) := fun ρ hρ => bin_at (z := .dat (.dT (kvM es))) (var_dat hρ) rfl rfl rfl rfl
  have ge1 : ∀ e ∈ es, goal e = .tup [.int (e.g : Int), .str e.m] := fun e _ => rfl
  have main : b_is_machine (V9 n es none none none none) = some (.ret (.dat (.bl true)), V9 n es (some (.dat (.int n))) (some (.dat (.dT (kvM es)))) (some (.dat (.sS (KA.met es)))) (some (.dat (.lst (es.map goal))))) := by
    unfold b_is_machine
    refine seq_at (ρ1 := V9 n es none none none none) (if_ff (or_ff (not_ff (tst_at (callP1 (fz_dat rfl) (ev_pair2 _ _)))) (or_ff (not_ff (tst_at (callP3 (ix0 _ rfl) rfl rfl w1))) (not_ff (tst_at (un_at (z := .dat (.bl true)) (ix1 _ rfl) rfl (by simp [isiD, isSetD, isiB, tyN])))))) rfl) ?_
    refine seq_at (ρ1 := V9 n es (some (.dat (.int n))) (some (.dat (.dT (kvM es)))) none none) rfl ?_
    refine seq_at (ρ1 := V9 n es (some (.dat (.int n))) (some (.dat (.dT (kvM es)))) none none) (if_ff (not_ff (tst_at (call1 (z := .dat (.bl true)) (lc_map spotD (fun _ => .bl true) es (any_at (fz_dat rfl) (items_dT es)) rfl (by rw [sizeLine_eq]; omega) fun e he => ⟨_, rfl, rfl, callP2 (fz_dat rfl) (fz_dat rfl) (ev_step_key (h.at he).1 (h.rL _ (h.at he).2))⟩) rfl (all_true es)))) rfl) ?_
    refine seq_at (ρ1 := V9 n es (some (.dat (.int n))) (some (.dat (.dT (kvM es)))) (some (.dat (.sS (KA.met es)))) none) (set_dat (sc_at spotD (fun e => e.r) es (any_at (fz_dat rfl) (items_dT es)) rfl fun e he => ⟨_, rfl, rfl, rfl, h.rL _ (h.at he).2⟩) rfl) ?_
    refine seq_at (ρ1 := V9 n es (some (.dat (.int n))) (some (.dat (.dT (kvM es)))) (some (.dat (.sS (KA.met es)))) none) (if_ff (or_ff (b := false) (tst_at (bin_at (z := .dat (.bl false)) (call1 (z := .dat (.int (KA.met es).length)) rfl rfl rfl) rfl rfl rfl ?_)) (tst_at (bin_at (z := .dat (.bl false)) (call1 (z := .dat (.int (kvM es).length)) rfl rfl rfl) (bin_at (z := .dat (.int ((n : Int) * (KA.met es).length))) rfl (call1 (z := .dat (.int (KA.met es).length)) rfl rfl rfl) rfl rfl (mul_ok ?_ ?_)) rfl rfl ?_))) rfl) ?_
    · show some (SV.dat (.bl (decide ((8 : Int) < (KA.met es).length)))) = _
      rw [h.metLen, decide_eq_false (by omega)]
    · have : (2000 : Nat) < 2 ^ 250 := by decide
      omega
    · have : (2000 : Nat) < 2 ^ 250 := by decide
      have := h.metLen
      omega
    · have l1 : ((kvM es).length : Int) = (n : Int) * (KA.met es).length := by
        rw [h.metLen]
        have := h.len
        simp only [kvM, List.length_map, this]
        exact Int.natCast_mul n rs.length
      show (eqX (.int ((kvM es).length : Int)) (.int ((n : Int) * (KA.met es).length))).map _ = _
      rw [eq_int, decide_eq_true l1]
      rfl
    have vi : dictD (.dT (kvM es)) = some (es.map spotD, es.map goal) := by
      simp [dictD, kvM, List.map_map, Function.comp_def, keysT_key]
    refine seq_at (ρ1 := V9 n es (some (.dat (.int n))) (some (.dat (.dT (kvM es)))) (some (.dat (.sS (KA.met es)))) (some (.own (.ml (es.map goal))))) (set_own (ρ1 := V9 n es (some (.dat (.int n))) (some (.dat (.dT (kvM es)))) (some (.dat (.sS (KA.met es)))) none) (by simp only [listvF, varD, List.getElem?_cons_succ, List.getElem?_cons_zero, Option.bind_some, rd, vi]) rfl) ?_
    refine ret_dat (call1 (z := .dat (.bl true)) (lc_at (ρ1 := V9 n es (some (.dat (.int n))) (some (.dat (.dT (kvM es)))) (some (.dat (.sS (KA.met es)))) (some (.dat (.lst (es.map goal))))) rfl rfl (by rw [List.length_map, sizeLine_eq]; omega) (compL_pure goal (fun _ => true) (fun _ => .bl true) es fun e he => ⟨_, rfl, rfl, rfl, fun _ => ?_⟩)) rfl ?_)
    · obtain ⟨g1, g2⟩ := h.ok e he
      have w2 : m_is_within [.int (e.g : Int), .int 0, .int ((n : Int) - 1)] = some (.dat (.bl true)) := by
        rw [ev_within, decide_eq_true (by omega : (0 : Int) ≤ e.g), decide_eq_true (by omega : (e.g : Int) ≤ n - 1)]
        rfl
      refine and_tt (callP1 (fz_dat rfl) (ev_pair2 _ _)) (and_tt (callP3 (d := .int (e.g : Int)) (e := .int 0) (i := .int ((n : Int) - 1)) ?_ rfl ?_ w2) (callP1 (d := .str e.m) ?_ (ev_mail g2)))
      · exact bin_at (z := .dat (.int (e.g : Int))) rfl rfl rfl rfl rfl
      · exact bin_at (z := .dat (.int ((n : Int) - 1))) rfl rfl rfl rfl rfl
      · exact bin_at (z := .dat (.str e.m)) rfl rfl rfl rfl rfl
    · rw [List.filter_eq_self.mpr fun _ _ => rfl]
      exact all_true es
  rw [e, main]
  rfl
theorem c_mach {n : Nat} {rs : List Str} {es : List E4} (h : Mach n rs es) {i : Nat} {ρ : EnvD} (h1 : ρ[i]? = some (some (.dat (mD n es)))) : exprF (callP (gdP 1 m_require_machine) (consA (fzD [] (varD i)) nilA)) ρ = some (.next, ρ) := by
  have e : m_require_machine [mD n es] = some (.dat .non) := by
    have e : m_require_machine [mD n es] = (b_require_machine [some (.dat (mD n es))]).bind fin := rfl
    have main : b_require_machine [some (.dat (mD n es))] = some (.next, [some (.dat (mD n es))]) := by
      unfold b_require_machine
      exact if_ff (not_ff (tst_at (callP1 (fz_dat rfl) (ev_is_machine h)))) rfl
    rw [e, main]
    rfl
  have c := callP1 (f := fzD [] (varD i)) (fz_dat h1) e
  simp only [exprF, c, Option.bind_some]
/-- the letters that are read, as a text -/
def readT (es : List E4) : Str := Txt.join "" (sortS (KA.met es))
theorem Mach.sorted {n : Nat} {rs : List Str} {es : List E4} (h : Mach n rs es) : sortS (KA.met es) = L.filter fun k => decide (k ∈ rs) := by
  rw [sort_keys (nd_met es) fun k hk => h.rL k ((h.met k).mp hk)]
  exact List.filter_congr fun k _ => by simp [h.met k]
theorem Mach.sgRead {n : Nat} {rs : List Str} {es : List E4} (h : Mach n rs es) : sg (readT es) = sortS (KA.met es) := join_sg _ fun k hk => len_L k (by
  rw [h.sorted] at hk
  exact (List.mem_filter.mp hk).1)
theorem Mach.memRead {n : Nat} {rs : List Str} {es : List E4} (h : Mach n rs es) (r : Str) : r ∈ sg (readT es) ↔ r ∈ rs := by
  rw [h.sgRead, (sortS_perm _).mem_iff, h.met]
theorem Mach.lenRead {n : Nat} {rs : List Str} {es : List E4} (h : Mach n rs es) : (readT es).length = rs.length := by
  rw [← len_sg, h.sgRead, (sortS_perm _).length_eq, h.metLen]
theorem join_met {n : Nat} {rs : List Str} {es : List E4} (h : Mach n rs es) : ((sortS (KA.met es)).map (·.length)).sum ≤ 16777216 := by
  rw [sum_one _ fun k hk => len_L k (by rw [h.sorted] at hk; exact (List.mem_filter.mp hk).1), (sortS_perm _).length_eq, h.metLen]
  have := h.r8
  omega
theorem sort_sS (l : List Str) (h : l.length ≤ 1000) : sortF [.sS l] = some (.own (.ml ((sortS l).map D.str))) := by
  have e : sortF [.sS l] = (sortD (l.map .str)).map fun es => .own (.ml es) := rfl
  rw [e, sortD_strs _ (by rw [sizeLine_eq]; omega)]
  rfl
theorem set_lst (l : List Str) (h : l.length ≤ 1000) : setS [.lst (l.map D.str)] = some (.dat (.sS (dedupS l))) := by
  have e : setS [.lst (l.map D.str)] = (strsOf (l.map D.str)).bind fun ys => if ys.length + 1 < scanBound then some (.dat (.sS (dedupS ys))) else none := rfl
  have sb : 1001 < scanBound := by decide
  rw [e, strsOf_map, Option.bind_some, if_pos (by omega)]
theorem ixM1 {n : Nat} {es : List E4} {i : Nat} {ρ : EnvD} (h : ρ[i]? = some (some (.dat (mD n es)))) : bin2 (varD i) (conD (.int 1)) ixD ρ = some (.dat (.dT (kvM es)), ρ) := bin_at (z := .dat (.dT (kvM es))) (var_dat h) rfl rfl rfl rfl
theorem ixM0 {n : Nat} {es : List E4} {i : Nat} {ρ : EnvD} (h : ρ[i]? = some (some (.dat (mD n es)))) : bin2 (varD i) (conD (.int 0)) ixD ρ = some (.dat (.int (n : Int)), ρ) := bin_at (z := .dat (.int (n : Int))) (var_dat h) rfl rfl rfl rfl
theorem ev_reads_in {n : Nat} {rs : List Str} {es : List E4} (h : Mach n rs es) : m_reads_in [mD n es] = some (.dat (.str (readT es))) := by
  have e : m_reads_in [mD n es] = (b_reads_in [some (.dat (mD n es)), none, none]).bind fin := rfl
  have r8 := h.r8
  have main : b_reads_in [some (.dat (mD n es)), none, none] = some (.ret (.dat (.str (readT es))), [some (.dat (mD n es)), none, none]) := by
    unfold b_reads_in
    exact ret_dat (me_join (call1 (sc_at spotD (fun e => e.r) es (any_at (ixM1 rfl) (items_dT es)) rfl fun e he => ⟨[some (.dat (mD n es)), some (.dat (.int (e.p : Int))), some (.dat (.str e.r))], rfl, rfl, rfl, h.rL _ (h.at he).2⟩) rfl (sort_sS _ (by have := h.metLen; show (KA.met es).length ≤ 1000; omega))) (join_met h))
  rw [e, main]
  rfl
theorem ev_law_reads {n : Nat} {rs : List Str} {es : List E4} (h : Mach n rs es) (hs : es.length ≤ 1000) : m__law_reads [mD n es] = some (.dat (.str (readT es))) := by
  have e : m__law_reads [mD n es] = (b__law_reads [some (.dat (mD n es)), none]).bind fin := rfl
  have r8 := h.r8
  have sm := h.small
  have lc := lc_map (vs := [1]) (fi := anyI (bin2 (varD 0) (conD (.int 1)) ixD)) (g := nameG 1) (f := bin2 (varD 1) (conD (.int 1)) ixD) (ρ := [some (.dat (mD n es)), none]) spotD (fun e => .str e.r) es (any_at (ixM1 rfl) (items_dT es)) rfl (by rw [sizeLine_eq]; omega) fun e he => ⟨[some (.dat (mD n es)), some (.dat (spotD e))], rfl, rfl, bin_at (z := .dat (.str e.r)) rfl rfl rfl rfl rfl⟩
  have ee : (es.map fun e => D.str e.r) = (es.map (·.r)).map D.str := by rw [List.map_map]; rfl
  rw [ee] at lc
  have main : b__law_reads [some (.dat (mD n es)), none] = some (.ret (.dat (.str (readT es))), [some (.dat (mD n es)), none]) := by
    unfold b__law_reads
    exact ret_dat (me_join (call1 (call1 lc rfl (set_lst _ (by rw [List.length_map]; exact hs))) rfl (sort_sS _ (by have := h.metLen; show (KA.met es).length ≤ 1000; omega))) (join_met h))
  rw [e, main]
  rfl
end KA

/-! MC: mails that are sent; walks. -/
namespace KA
open DL L2 PySem PySem.Spec PyProof.Rows LawT

/-- texts, one behind the other -/
def cat (ss : List Str) : Str := Txt.join "" ss
theorem cat_tl (ss : List Str) : (cat ss).cps.toList = (ss.map fun s => s.cps.toList).flatten := by
  unfold cat
  rw [txt_join, join_tl]
theorem cat_cons (s : Str) (ss : List Str) : cat (s :: ss) = s ++ cat ss := str_tl (by rw [cat_tl, app_tl, cat_tl]; rfl)
theorem cat_app (a b : List Str) : cat (a ++ b) = cat a ++ cat b := str_tl (by rw [cat_tl, app_tl, cat_tl, cat_tl, List.map_append, List.flatten_append])
theorem cat_nil : cat [] = "" := str_tl (by rw [cat_tl]; decide +kernel)
theorem app_nil' (s : Str) : s ++ ("" : Str) = s := str_tl (by rw [app_tl]; have : ("" : Str).cps.toList = [] := by decide +kernel
                                                               rw [this, List.append_nil])
theorem nil_app' (s : Str) : ("" : Str) ++ s = s := str_tl (by rw [app_tl]; have : ("" : Str).cps.toList = [] := by decide +kernel
                                                               rw [this, List.nil_append])
theorem app_assoc' (a b c : Str) : a ++ b ++ c = a ++ (b ++ c) := str_tl (by simp only [app_tl, List.append_assoc])
theorem len_tl (s : Str) : s.cps.toList.length = s.length := by simp [PySem.Str.length]
theorem len_cat : ∀ ss : List Str, (cat ss).length = (ss.map (·.length)).sum
  | [] => by rw [cat_nil]; decide +kernel
  | s :: ss => by rw [cat_cons, len_app, len_cat ss]; rfl
theorem sg_cat : ∀ ss : List Str, sg (cat ss) = ss.flatMap sg
  | [] => by rw [cat_nil]; decide +kernel
  | s :: ss => by rw [cat_cons, sg_app, sg_cat ss]; rfl
theorem sum_bound (k : Nat) : ∀ ss : List Str, (∀ s ∈ ss, s.length ≤ k) → (ss.map (·.length)).sum ≤ ss.length * k
  | [], _ => by simp
  | s :: ss, h => by
    have := sum_bound k ss fun x hx => h x (List.mem_cons_of_mem _ hx)
    have := h s List.mem_cons_self
    rw [List.map_cons, List.sum_cons, List.length_cons, Nat.add_mul, Nat.one_mul]
    omega
theorem set_str {x : Str} (h : x.length ≤ 4000) : setS [.str x] = some (.dat (.sS (dedupS (sg x)))) := by
  have sb : 4001 < scanBound := by decide
  show (if (DL.signs x).length + 1 < scanBound then _ else _) = _
  rw [if_pos (by rw [signs_len]; omega)]
/-- all mails of a machine -/
def mails (es : List E4) : Str := cat (es.map (·.m))
def sendT (es : List E4) : Str := Txt.join "" (sortS (dedupS (sg (mails es))))
theorem Mach.mailsL {n : Nat} {rs : List Str} {es : List E4} (h : Mach n rs es) : ∀ s ∈ sg (mails es), s ∈ L := by
  intro s hs
  unfold mails at hs
  rw [sg_cat] at hs
  obtain ⟨m, h1, h2⟩ := List.mem_flatMap.mp hs
  obtain ⟨e, he, rfl⟩ := List.mem_map.mp h1
  exact (h.ok e he).2.let' s h2
theorem dedup_L {ss : List Str} (h : ∀ s ∈ ss, s ∈ L) : (dedupS ss).length ≤ 12 ∧ ∀ k ∈ dedupS ss, k ∈ L := by
  have hk : ∀ k ∈ dedupS ss, k ∈ L := fun k hk => by
    unfold dedupS at hk
    rw [mem_dedup] at hk
    exact h k (by simpa using hk)
  exact ⟨sub_len (nd_dedup _ _ List.nodup_nil) hk, hk⟩
theorem join_dedup {ss : List Str} (h : ∀ s ∈ ss, s ∈ L) : ((sortS (dedupS ss)).map (·.length)).sum ≤ 16777216 := by
  obtain ⟨l, hk⟩ := dedup_L h
  rw [sum_one _ fun k hk' => len_L k (hk k ((sortS_perm _).mem_iff.mp hk')), (sortS_perm _).length_eq]
  omega
theorem join_mails {n : Nat} {rs : List Str} {es : List E4} (h : Mach n rs es) : ((es.map (·.m)).map (·.length)).sum ≤ 16777216 := by
  have := sum_bound 200 (es.map (·.m)) fun s hs => by
    obtain ⟨e, he, rfl⟩ := List.mem_map.mp hs
    exact (h.ok e he).2.few
  have := h.small
  rw [List.length_map] at *
  omega
theorem ev_sends_in {n : Nat} {rs : List Str} {es : List E4} (h : Mach n rs es) (hm : (mails es).length ≤ 4000) : m_sends_in [mD n es] = some (.dat (.str (sendT es))) := by
  have e : m_sends_in [mD n es] = (b_sends_in [some (.dat (mD n es)), none, none, none]).bind fin := rfl
  have sm := h.small
  obtain ⟨dl, dk⟩ := dedup_L h.mailsL
  have fi : valsD (bin2 (varD 0) (conD (.int 1)) ixD) [some (.dat (mD n es)), none, none, none] = some (es.map goal, [some (.dat (mD n es)), none, none, none]) := by
    have x1 := ixM1 (n := n) (es := es) (i := 0) (ρ := [some (.dat (mD n es)), none, none, none]) rfl
    simp only [valsD, x1, Option.bind_some]
    simp [kvM, List.map_map, Function.comp_def]
  have lc := lc_map (vs := [2, 3]) (fi := valsD (bin2 (varD 0) (conD (.int 1)) ixD)) (g := tupG 2 (consG (nameG 2) (consG (nameG 3) nilG))) (f := fzD [] (varD 3)) (ρ := [some (.dat (mD n es)), none, none, none]) goal (fun e => .str e.m) es fi rfl (by rw [sizeLine_eq]; omega) fun e he => ⟨[some (.dat (mD n es)), none, some (.dat (.int (e.g : Int))), some (.dat (.str e.m))], rfl, rfl, rfl⟩
  have ee : (es.map fun e => D.str e.m) = (es.map (·.m)).map D.str := by rw [List.map_map]; rfl
  rw [ee] at lc
  have main : b_sends_in [some (.dat (mD n es)), none, none, none] = some (.ret (.dat (.str (sendT es))), [some (.dat (mD n es)), some (.dat (.str (mails es))), none, none]) := by
    unfold b_sends_in
    refine seq_at (ρ1 := [some (.dat (mD n es)), some (.dat (.str (mails es))), none, none]) (set_dat (me_join lc (join_mails h)) rfl) ?_
    exact ret_dat (me_join (call1 (call1 rfl rfl (set_str hm)) rfl (sort_sS _ (by omega))) (join_dedup h.mailsL))
  rw [e, main]
  rfl
theorem keys_nd {es : List E4} (h : (es.map spot).Nodup) : ((kvM es).map (·.1)).Nodup := by
  have e : (kvM es).map (·.1) = (es.map spot).map fun q : Nat × Str => ([.inl (q.1 : Int), .inr q.2] : List Key) := by
    unfold kvM
    rw [List.map_map, List.map_map]
    rfl
  rw [e]
  refine List.Pairwise.map _ (fun a b ne z => ne ?_) h
  have z1 := (List.cons.inj z).1
  have z2 := (List.cons.inj (List.cons.inj z).2).1
  exact Prod.ext (by have := Sum.inl.inj z1; omega) (Sum.inr.inj z2)
theorem ix_spot {es : List E4} (nd : (es.map spot).Nodup) {e : E4} (he : e ∈ es) : ixD (.dT (kvM es)) (spotD e) = some (.dat (goal e)) := by
  have g := get_mem (kv := (key e, goal e)) (keys_nd nd) (List.mem_map.mpr ⟨e, he, rfl⟩)
  show ((toKeys [.int (e.p : Int), .str e.r]).bind fun k => (getK (kvM es) k).map SV.dat) = _
  have t : toKeys [.int (e.p : Int), .str e.r] = some (key e) := rfl
  rw [t, Option.bind_some, g]
  rfl
theorem ev_law_sends {n : Nat} {rs : List Str} {es : List E4} (h : Mach n rs es) (hm : (mails es).length ≤ 4000) : m__law_sends [mD n es] = some (.dat (.str (sendT es))) := by
  have e : m__law_sends [mD n es] = (b__law_sends [some (.dat (mD n es)), none]).bind fin := rfl
  have sm := h.small
  obtain ⟨dl, dk⟩ := dedup_L h.mailsL
  have lc := lc_map (vs := [1]) (fi := anyI (bin2 (varD 0) (conD (.int 1)) ixD)) (g := nameG 1) (f := bin2 (bin2 (bin2 (varD 0) (conD (.int 1)) ixD) (varD 1) ixD) (conD (.int 1)) ixD) (ρ := [some (.dat (mD n es)), none]) spotD (fun e => .str e.m) es (any_at (ixM1 rfl) (items_dT es)) rfl (by rw [sizeLine_eq]; omega) fun e he => ⟨[some (.dat (mD n es)), some (.dat (spotD e))], rfl, rfl, bin_at (z := .dat (.str e.m)) (bin_at (z := .dat (goal e)) (ixM1 rfl) rfl rfl rfl (ix_spot h.nd he)) rfl rfl rfl rfl⟩
  have ee : (es.map fun e => D.str e.m) = (es.map (·.m)).map D.str := by rw [List.map_map]; rfl
  rw [ee] at lc
  have main : b__law_sends [some (.dat (mD n es)), none] = some (.ret (.dat (.str (sendT es))), [some (.dat (mD n es)), none]) := by
    unfold b__law_sends
    exact ret_dat (me_join (call1 (call1 (z := .dat (.sS (dedupS (sg (mails es))))) (me_join lc (join_mails h)) rfl (set_str hm)) rfl (sort_sS _ (by omega))) (join_dedup h.mailsL))
  rw [e, main]
  rfl
/-! ### walks -/
def look (es : List E4) (p : Nat) (r : Str) : Option E4 := es.find? fun e => decide (spot e = (p, r))
theorem Mach.look {n : Nat} {rs : List Str} {es : List E4} (h : Mach n rs es) {p : Nat} {r : Str} (hp : p < n) (hr : r ∈ rs) : ∃ e ∈ es, e.p = p ∧ e.r = r ∧ KA.look es p r = some e := by
  obtain ⟨e, he, e2⟩ := List.mem_map.mp ((h.mem p r).mpr ⟨hp, hr⟩)
  cases hl : KA.look es p r with
  | none =>
    have := List.find?_eq_none.mp hl e he
    simp [e2] at this
  | some e' =>
    have h1 := List.find?_some hl
    have h2 := List.mem_of_find?_eq_some hl
    have h3 : spot e' = (p, r) := of_decide_eq_true h1
    exact ⟨e', h2, (Prod.mk.inj h3).1, (Prod.mk.inj h3).2, rfl⟩
/-- where a row leads, and what is sent -/
def go (es : List E4) : Nat → List Str → Nat × List Str
  | p, [] => (p, [])
  | p, r :: rest => match KA.look es p r with
    | some e => ((go es e.g rest).1, e.m :: (go es e.g rest).2)
    | none => (p, [])
theorem go_cons {n : Nat} {rs : List Str} {es : List E4} {p : Nat} {r : Str} {rest : List Str} {e : E4} (h : KA.look es p r = some e) : go es p (r :: rest) = ((go es e.g rest).1, e.m :: (go es e.g rest).2) := by
  rw [go, h]
theorem go_ok {n : Nat} {rs : List Str} {es : List E4} (h : Mach n rs es) : ∀ (ls : List Str) (p : Nat), p < n → (∀ l ∈ ls, l ∈ rs) → (go es p ls).1 < n ∧ (∀ m ∈ (go es p ls).2, ∃ e ∈ es, e.m = m) ∧ (go es p ls).2.length = ls.length
  | [], p, hp, _ => ⟨hp, by simp [go], rfl⟩
  | r :: rest, p, hp, hl => by
    obtain ⟨e, he, _, _, hk⟩ := h.look hp (hl r List.mem_cons_self)
    obtain ⟨i1, i2, i3⟩ := go_ok h rest e.g (h.ok e he).1 fun l hl' => hl l (List.mem_cons_of_mem _ hl')
    rw [go_cons (n := n) (rs := rs) hk]
    refine ⟨i1, fun m hm => ?_, by simp [i3]⟩
    rcases List.mem_cons.mp hm with rfl | hm
    · exact ⟨e, he, rfl⟩
    · exact i2 m hm
theorem go_app {n : Nat} {rs : List Str} {es : List E4} (h : Mach n rs es) : ∀ (a b : List Str) (p : Nat), p < n → (∀ l ∈ a, l ∈ rs) → go es p (a ++ b) = ((go es (go es p a).1 b).1, (go es p a).2 ++ (go es (go es p a).1 b).2)
  | [], b, p, _, _ => rfl
  | r :: a, b, p, hp, hl => by
    obtain ⟨e, he, _, _, hk⟩ := h.look hp (hl r List.mem_cons_self)
    rw [List.cons_append, go_cons (n := n) (rs := rs) hk, go_cons (n := n) (rs := rs) hk, go_app h a b e.g (h.ok e he).1 fun l hl' => hl l (List.mem_cons_of_mem _ hl')]
    rfl
end KA

/-! MD: walks by the program and by the law. -/
namespace KA
open DL L2 PySem PySem.Spec PyProof.Rows LawT

abbrev VW (n : Nat) (es : List E4) (s1 s2 s3 s4 s5 s6 : Option SV) : EnvD := [some (.dat (mD n es)), s1, s2, s3, s4, s5, s6]
/-- machine[1][here, letter] -/
theorem ix_step {n : Nat} {rs : List Str} {es : List E4} (h : Mach n rs es) {e : E4} (he : e ∈ es) {fp fr : FE} {i : Nat} {ρ : EnvD} (h0 : ρ[i]? = some (some (.dat (mD n es)))) (h1 : fp ρ = some (.dat (.int (e.p : Int)), ρ)) (h2 : fr ρ = some (.dat (.str e.r), ρ)) :
    bin2 (bin2 (varD i) (conD (.int 1)) ixD) (tupF (consA fp (consA fr nilA))) ixD ρ = some (.dat (goal e), ρ) :=
  bin_at (z := .dat (goal e)) (ixM1 h0) (tup2 h1 h2) rfl rfl (ix_spot h.nd he)
def bodyP : FS := seqF (asgF [] [3, 6] (bin2 (bin2 (varD 0) (conD (.int 1)) ixD) (tupF (consA (fzD [] (varD 3)) (consA (fzD [] (varD 5)) nilA))) ixD) (tupG 2 (consG (nameG 3) (consG (nameG 6) nilG)))) (exprF (mutL 4 (consA (fzD [] (varD 6)) nilA) appO))
def bodyL : FS := seqF (asgF [] [3, 6] (bin2 (bin2 (varD 0) (conD (.int 1)) ixD) (tupF (consA (fzD [] (varD 3)) (consA (fzD [] (varD 5)) nilA))) ixD) (tupG 2 (consG (nameG 3) (consG (nameG 6) nilG)))) (setF [] 4 (bin2 (varD 4) (varD 6) addD))
theorem asg_goal {n : Nat} {rs : List Str} {es : List E4} (h : Mach n rs es) {e : E4} (he : e ∈ es) (s1 s2 s4 s6 : Option SV) : asgF [] [3, 6] (bin2 (bin2 (varD 0) (conD (.int 1)) ixD) (tupF (consA (fzD [] (varD 3)) (consA (fzD [] (varD 5)) nilA))) ixD) (tupG 2 (consG (nameG 3) (consG (nameG 6) nilG))) (VW n es s1 s2 (some (.dat (.int (e.p : Int)))) s4 (some (.dat (.str e.r))) s6) = some (.next, VW n es s1 s2 (some (.dat (.int (e.g : Int)))) s4 (some (.dat (.str e.r))) (some (.dat (.str e.m)))) := by
  have ix := ix_step (n := n) (rs := rs) (es := es) h he (fp := fzD [] (varD 3)) (fr := fzD [] (varD 5)) (i := 0) (ρ := VW n es s1 s2 (some (.dat (.int (e.p : Int)))) s4 (some (.dat (.str e.r))) s6) rfl rfl rfl
  simp only [asgF, ix, Option.bind_some]
  rfl
theorem app_at {xs : List D} {d : D} (h : xs.length < sizeLine) : appO (.ml xs) [d] = some (.non, .ml (xs ++ [d])) := by
  show (if _ then _ else _) = _
  rw [if_pos h]
theorem walk_loop {n : Nat} {rs : List Str} {es : List E4} (h : Mach n rs es) (s1 s2 : Option SV) : ∀ (ls : List Str) (p : Nat) (acc : List Str) (s5 s6 : Option SV), (∀ l ∈ ls, l ∈ rs) → p < n → acc.length + ls.length ≤ 100000 →
    ∃ s5' s6', loopF [] [5] (nameG 5) bodyP (ls.map D.str) (VW n es s1 s2 (some (.dat (.int (p : Int)))) (some (.own (.ml (acc.map D.str)))) s5 s6) = some (.next, VW n es s1 s2 (some (.dat (.int ((go es p ls).1 : Int)))) (some (.own (.ml ((acc ++ (go es p ls).2).map D.str)))) s5' s6')
  | [], p, acc, s5, s6, _, _, _ => ⟨s5, s6, by rw [show (go es p []).2 = [] from rfl, List.append_nil]; rfl⟩
  | r :: ls, p, acc, s5, s6, hl, hp, hz => by
    obtain ⟨e, he, rfl, rfl, hk⟩ := h.look hp (hl r List.mem_cons_self)
    rw [List.length_cons] at hz
    obtain ⟨s5', s6', ih⟩ := walk_loop h s1 s2 ls e.g (acc ++ [e.m]) (some (.dat (.str e.r))) (some (.dat (.str e.m))) (fun l hl' => hl l (List.mem_cons_of_mem _ hl')) (h.ok e he).1 (by rw [List.length_append, List.length_singleton]; omega)
    refine ⟨s5', s6', ?_⟩
    rw [go_cons (n := n) (rs := rs) hk, List.map_cons, loopF, if_pos (by simp)]
    have b : bodyP (VW n es s1 s2 (some (.dat (.int (e.p : Int)))) (some (.own (.ml (acc.map D.str)))) (some (.dat (.str e.r))) s6) = some (.next, VW n es s1 s2 (some (.dat (.int (e.g : Int)))) (some (.own (.ml ((acc ++ [e.m]).map D.str)))) (some (.dat (.str e.r))) (some (.dat (.str e.m)))) := by
      unfold bodyP
      refine seq_at (asg_goal h he s1 s2 _ s6) ?_
      have m := mutL_at (j := 4) (F := appO) (xs := acc.map D.str) (g := consA (fzD [] (varD 6)) nilA) (ρ := VW n es s1 s2 (some (.dat (.int (e.g : Int)))) (some (.own (.ml (acc.map D.str)))) (some (.dat (.str e.r))) (some (.dat (.str e.m)))) (ρ1 := VW n es s1 s2 (some (.dat (.int (e.g : Int)))) (some (.own (.ml (acc.map D.str)))) (some (.dat (.str e.r))) (some (.dat (.str e.m)))) (d := .str e.m) (y := .ml (acc.map D.str)) rfl rfl rfl (app_at (by rw [List.length_map, sizeLine_eq]; omega))
      unfold exprF
      rw [m, List.map_append]
      rfl
    show ((some (VW n es s1 s2 (some (.dat (.int (e.p : Int)))) (some (.own (.ml (acc.map D.str)))) (some (.dat (.str e.r))) s6)).bind fun ρ1 => (bodyP ρ1).bind _) = _
    rw [Option.bind_some, b, Option.bind_some]
    have ea : acc ++ e.m :: (go es e.g ls).2 = acc ++ [e.m] ++ (go es e.g ls).2 := by simp
    rw [ea]
    exact ih
theorem law_loop {n : Nat} {rs : List Str} {es : List E4} (h : Mach n rs es) (s1 s2 : Option SV) : ∀ (ls : List Str) (p : Nat) (t : Str) (s5 s6 : Option SV), (∀ l ∈ ls, l ∈ rs) → p < n → t.length + 200 * ls.length ≤ 1000000 →
    ∃ s5' s6', loopF [] [5] (nameG 5) bodyL (ls.map D.str) (VW n es s1 s2 (some (.dat (.int (p : Int)))) (some (.dat (.str t))) s5 s6) = some (.next, VW n es s1 s2 (some (.dat (.int ((go es p ls).1 : Int)))) (some (.dat (.str (t ++ cat (go es p ls).2)))) s5' s6')
  | [], p, t, s5, s6, _, _, _ => ⟨s5, s6, by rw [show (go es p []).2 = [] from rfl, cat_nil, app_nil']; rfl⟩
  | r :: ls, p, t, s5, s6, hl, hp, hz => by
    obtain ⟨e, he, rfl, rfl, hk⟩ := h.look hp (hl r List.mem_cons_self)
    have few := (h.ok e he).2.few
    rw [List.length_cons] at hz
    obtain ⟨s5', s6', ih⟩ := law_loop h s1 s2 ls e.g (t ++ e.m) (some (.dat (.str e.r))) (some (.dat (.str e.m))) (fun l hl' => hl l (List.mem_cons_of_mem _ hl')) (h.ok e he).1 (by rw [len_app]; omega)
    refine ⟨s5', s6', ?_⟩
    rw [go_cons (n := n) (rs := rs) hk, List.map_cons, loopF, if_pos (by simp)]
    have b : bodyL (VW n es s1 s2 (some (.dat (.int (e.p : Int)))) (some (.dat (.str t))) (some (.dat (.str e.r))) s6) = some (.next, VW n es s1 s2 (some (.dat (.int (e.g : Int)))) (some (.dat (.str (t ++ e.m)))) (some (.dat (.str e.r))) (some (.dat (.str e.m)))) := by
      unfold bodyL
      refine seq_at (asg_goal h he s1 s2 _ s6) ?_
      exact set_dat (bin_at (z := .dat (.str (t ++ e.m))) rfl rfl rfl rfl (add_str (by omega))) rfl
    show ((some (VW n es s1 s2 (some (.dat (.int (e.p : Int)))) (some (.dat (.str t))) (some (.dat (.str e.r))) s6)).bind fun ρ1 => (bodyL ρ1).bind _) = _
    rw [Option.bind_some, b, Option.bind_some, cat_cons, ← app_assoc']
    exact ih
/-- what a walk tells -/
def told (es : List E4) (p : Nat) (ls : List Str) : D := .tup [.int ((go es p ls).1 : Int), dC (canon (tal (cat (go es p ls).2)))]
theorem go_row {n : Nat} {rs : List Str} {es : List E4} (h : Mach n rs es) {p : Nat} (hp : p < n) {ls : List Str} (hl : ∀ l ∈ ls, l ∈ rs) (hz : (cat (go es p ls).2).length ≤ 1000) : Row (cat (go es p ls).2) := ⟨hz, fun s hs => by
  rw [sg_cat] at hs
  obtain ⟨m, h1, h2⟩ := List.mem_flatMap.mp hs
  obtain ⟨e, he, rfl⟩ := (go_ok h ls p hp hl).2.1 m h1
  exact (h.ok e he).2.let' s h2⟩
theorem ev_walked {n : Nat} {rs : List Str} {es : List E4} (h : Mach n rs es) {p : Nat} (hp : p < n) {row : Str} (hl : ∀ l ∈ sg row, l ∈ rs) (hr : row.length ≤ 100000) (hz : (cat (go es p (sg row)).2).length ≤ 1000) : m_walked [mD n es, .int (p : Int), .str row] = some (.dat (told es p (sg row))) := by
  have e : m_walked [mD n es, .int (p : Int), .str row] = (b_walked (VW n es (some (.dat (.int (p : Int)))) (some (.dat (.str row))) none none none none)).bind fin := rfl
  obtain ⟨s5, s6, lp⟩ := walk_loop h (some (.dat (.int (p : Int)))) (some (.dat (.str row))) (sg row) p [] none none hl hp (by rw [len_sg]; simpa using hr)
  obtain ⟨g1, g2, g3⟩ := go_ok h (sg row) p hp hl
  rw [List.nil_append] at lp
  have ct := ev_counts_in (go_row h hp hl hz)
  have jn : ((go es p (sg row)).2.map (·.length)).sum ≤ 16777216 := by
    rw [← len_cat]
    omega
  have main : b_walked (VW n es (some (.dat (.int (p : Int)))) (some (.dat (.str row))) none none none none) = some (.ret (.dat (told es p (sg row))), VW n es (some (.dat (.int (p : Int)))) (some (.dat (.str row))) (some (.dat (.int ((go es p (sg row)).1 : Int)))) (some (.own (.ml ((go es p (sg row)).2.map D.str)))) s5 s6) := by
    unfold b_walked
    refine seq_at (ρ1 := VW n es (some (.dat (.int (p : Int)))) (some (.dat (.str row))) (some (.dat (.int (p : Int)))) (some (.own (.ml []))) none none) rfl ?_
    refine seq_at (for_at (is := (sg row).map D.str) (ρ1 := VW n es (some (.dat (.int (p : Int)))) (some (.dat (.str row))) (some (.dat (.int (p : Int)))) (some (.own (.ml []))) none none) rfl lp) ?_
    have jm : meF "str" (conD (.str "")) (consA (varD 4) nilA) joinM (VW n es (some (.dat (.int (p : Int)))) (some (.dat (.str row))) (some (.dat (.int ((go es p (sg row)).1 : Int)))) (some (.own (.ml ((go es p (sg row)).2.map D.str)))) s5 s6) = some (.dat (.str (cat (go es p (sg row)).2)), VW n es (some (.dat (.int (p : Int)))) (some (.dat (.str row))) (some (.dat (.int ((go es p (sg row)).1 : Int)))) (some (.own (.ml ((go es p (sg row)).2.map D.str)))) s5 s6) := by
      have j := join_ok _ jn
      simp only [meF, conD, Option.bind_some, rd, tyN, if_true, consA, nilA, varD, List.getElem?_cons_succ, List.getElem?_cons_zero, rds, OV.d, j, SV.r]
      rfl
    exact ret_dat (tup2 (fz_dat rfl) (callP1 jm ct))
  rw [e, main]
  rfl
theorem ev_law_walked {n : Nat} {rs : List Str} {es : List E4} (h : Mach n rs es) {p : Nat} (hp : p < n) {row : Str} (hl : ∀ l ∈ sg row, l ∈ rs) (hr : row.length ≤ 1000) (hz : (cat (go es p (sg row)).2).length ≤ 1000) : m__law_walked [mD n es, .int (p : Int), .str row] = some (.dat (told es p (sg row))) := by
  have e : m__law_walked [mD n es, .int (p : Int), .str row] = (b__law_walked (VW n es (some (.dat (.int (p : Int)))) (some (.dat (.str row))) none none none none)).bind fin := rfl
  have l0 : ("" : Str).length = 0 := by decide +kernel
  obtain ⟨s5, s6, lp⟩ := law_loop h (some (.dat (.int (p : Int)))) (some (.dat (.str row))) (sg row) p "" none none hl hp (by rw [len_sg, l0]; omega)
  rw [nil_app'] at lp
  have ct := ev_law_counts (go_row h hp hl hz)
  have main : b__law_walked (VW n es (some (.dat (.int (p : Int)))) (some (.dat (.str row))) none none none none) = some (.ret (.dat (told es p (sg row))), VW n es (some (.dat (.int (p : Int)))) (some (.dat (.str row))) (some (.dat (.int ((go es p (sg row)).1 : Int)))) (some (.dat (.str (cat (go es p (sg row)).2)))) s5 s6) := by
    unfold b__law_walked
    refine seq_at (ρ1 := VW n es (some (.dat (.int (p : Int)))) (some (.dat (.str row))) (some (.dat (.int (p : Int)))) (some (.dat (.str ""))) none none) rfl ?_
    refine seq_at (for_at (is := (sg row).map D.str) (ρ1 := VW n es (some (.dat (.int (p : Int)))) (some (.dat (.str row))) (some (.dat (.int (p : Int)))) (some (.dat (.str ""))) none none) rfl lp) ?_
    exact ret_dat (tup2 (fz_dat rfl) (callP1 (fz_dat rfl) ct))
  rw [e, main]
  rfl
end KA

/-! ME: walk, step_of; counts that are added; parts of rows. -/
namespace KA
open DL L2 PySem PySem.Spec PyProof.Rows LawT

theorem ev_req_place {p n : Nat} (h : p < n) (hn : n ≤ 2000) : m_require_number [.int (p : Int), .int 0, .int ((n : Int) - 1)] = some (.dat .non) := by
  have e : m_require_number [.int (p : Int), .int 0, .int ((n : Int) - 1)] = (b_require_number [some (.dat (.int (p : Int))), some (.dat (.int 0)), some (.dat (.int ((n : Int) - 1)))]).bind fin := rfl
  have s : m_is_short [.int (p : Int)] = some (.dat (.bl true)) := by
    rw [ev_short _ rfl]
    have h1 : -FAR < (p : Int) := by have : FAR > 0 := by decide
                                     omega
    have h2 : (p : Int) < FAR := by have : (2000 : Int) < FAR := by decide
                                    omega
    simp [shoB, h1, h2]
  have main : b_require_number [some (.dat (.int (p : Int))), some (.dat (.int 0)), some (.dat (.int ((n : Int) - 1)))] = some (.next, [some (.dat (.int (p : Int))), some (.dat (.int 0)), some (.dat (.int ((n : Int) - 1)))]) := by
    unfold b_require_number
    have l1 : ∀ ρ : EnvD, ltD (.int (p : Int)) (.int 0) = some (.dat (.bl false)) := fun _ => by
      show some (SV.dat (.bl (decide ((p : Int) < 0)))) = _
      rw [decide_eq_false (by omega)]
    have l2 : gtD (.int (p : Int)) (.int ((n : Int) - 1)) = some (.dat (.bl false)) := by
      show some (SV.dat (.bl (decide ((n : Int) - 1 < p)))) = _
      rw [decide_eq_false (by omega)]
    refine if_ff (or_ff (not_ff (tst_at (callP1 (fz_dat rfl) s))) (or_ff (b := false) (ρ1 := [some (.dat (.int (p : Int))), some (.dat (.int 0)), some (.dat (.int ((n : Int) - 1)))]) ?_ ?_)) rfl
    · have t1 : tstF (bin2 (varD 1) (conD .non) isnD) [some (.dat (.int (p : Int))), some (.dat (.int 0)), some (.dat (.int ((n : Int) - 1)))] = some (true, [some (.dat (.int (p : Int))), some (.dat (.int 0)), some (.dat (.int ((n : Int) - 1)))]) := rfl
      have t2 := tst_at (bin_at (F := ltD) (f := varD 0) (g := varD 1) (ρ := [some (.dat (.int (p : Int))), some (.dat (.int 0)), some (.dat (.int ((n : Int) - 1)))]) (z := .dat (.bl false)) rfl rfl rfl rfl (l1 []))
      simp only [andT, t1, t2, Option.bind_some, if_true]
    · have t1 : tstF (bin2 (varD 2) (conD .non) isnD) [some (.dat (.int (p : Int))), some (.dat (.int 0)), some (.dat (.int ((n : Int) - 1)))] = some (true, [some (.dat (.int (p : Int))), some (.dat (.int 0)), some (.dat (.int ((n : Int) - 1)))]) := rfl
      have t2 := tst_at (bin_at (F := gtD) (f := varD 0) (g := varD 2) (ρ := [some (.dat (.int (p : Int))), some (.dat (.int 0)), some (.dat (.int ((n : Int) - 1)))]) (z := .dat (.bl false)) rfl rfl rfl rfl l2)
      simp only [andT, t1, t2, Option.bind_some, if_true]
  rw [e, main]
  rfl
theorem ex_call {F : FP} {g : FA} {ρ : EnvD} {r : RV} (h : callP F g ρ = some (r, ρ)) : exprF (callP F g) ρ = some (.next, ρ) := by
  simp only [exprF, h, Option.bind_some]
/-- require_number(place, 0, machine[0] - 1) -/
theorem c_place {n : Nat} {es : List E4} {p : Nat} (hp : p < n) (hn : n ≤ 2000) {i j : Nat} {ρ : EnvD} (h1 : ρ[i]? = some (some (.dat (mD n es)))) (h2 : ρ[j]? = some (some (.dat (.int (p : Int))))) : exprF (callP (gdP 3 m_require_number) (consA (fzD [] (varD j)) (consA (conD (.int 0)) (consA (bin2 (bin2 (varD i) (conD (.int 0)) ixD) (conD (.int 1)) subD) nilA)))) ρ = some (.next, ρ) :=
  ex_call (callP3 (d := .int (p : Int)) (e := .int 0) (i := .int ((n : Int) - 1)) (fz_dat h2) rfl (bin_at (z := .dat (.int ((n : Int) - 1))) (ixM0 h1) rfl rfl rfl rfl) (ev_req_place hp hn))
theorem ev_req_reads {n : Nat} {rs : List Str} {es : List E4} (h : Mach n rs es) {row : Str} (hl : ∀ l ∈ sg row, l ∈ rs) (hr : row.length ≤ 100000) : m_require_read_row [mD n es, .str row] = some (.dat .non) := by
  have e : m_require_read_row [mD n es, .str row] = (b_require_read_row [some (.dat (mD n es)), some (.dat (.str row)), none, none]).bind fin := rfl
  have rb : rowB row = true := (rowB_iff row).mpr fun s hs => h.rL s (hl s hs)
  obtain ⟨ρ', lp, s3, rfl⟩ := loop_all (R := []) (vs := [3]) (g := nameG 3) (body := ifS (tstF (bin2 (varD 3) (varD 2) (asB inD true))) neverF nextF) (fun ρ => ∃ s3, ρ = [some (.dat (mD n es)), some (.dat (.str row)), some (.dat (.str (readT es))), s3]) (by simp) ((sg row).map D.str) [some (.dat (mD n es)), some (.dat (.str row)), some (.dat (.str (readT es))), none] (fun d hd ρ ⟨s3, hρ⟩ => by
    obtain ⟨l, hl', rfl⟩ := List.mem_map.mp hd
    subst hρ
    refine ⟨_, _, rfl, if_ff (tst_at (bin_at (z := .dat (.bl false)) rfl rfl rfl rfl ?_)) rfl, _, rfl⟩
    show (some (strIn l (readT es))).map _ = _
    rw [in_sg _ (sg_one hl'), decide_eq_true ((h.memRead l).mpr (hl l hl'))]
    rfl) ⟨none, rfl⟩
  have main : b_require_read_row [some (.dat (mD n es)), some (.dat (.str row)), none, none] = some (.next, [some (.dat (mD n es)), some (.dat (.str row)), some (.dat (.str (readT es))), s3]) := by
    unfold b_require_read_row
    refine seq_at (ex_call (callP1 (fz_dat rfl) (ev_req_row row hr rb))) (seq_at (ρ1 := [some (.dat (mD n es)), some (.dat (.str row)), some (.dat (.str (readT es))), none]) (set_dat (callP1 (fz_dat rfl) (ev_reads_in h)) rfl) ?_)
    exact for_at (is := (sg row).map D.str) rfl lp
  rw [e, main]
  rfl
theorem callP3m {F : FP} {f g h : FE} {ρ : EnvD} {d e i : D} {z : SV} (h1 : f ρ = some (.dat d, ρ)) (h2 : g ρ = some (.dat e, ρ)) (h3 : h ρ = some (.dat i, ρ)) (hF : F [d, e, i] = some z) : callP (gdP 3 F) (consA f (consA g (consA h nilA))) ρ = some (z.r, ρ) := callP3 h1 h2 h3 hF
theorem ev_walk {n : Nat} {rs : List Str} {es : List E4} (h : Mach n rs es) {p : Nat} (hp : p < n) {row : Str} (hl : ∀ l ∈ sg row, l ∈ rs) (hr : row.length ≤ 100000) (hz : (cat (go es p (sg row)).2).length ≤ 1000) : m_walk [mD n es, .int (p : Int), .str row] = some (.dat (KA.told es p (sg row))) := by
  have e : m_walk [mD n es, .int (p : Int), .str row] = (b_walk [some (.dat (mD n es)), some (.dat (.int (p : Int))), some (.dat (.str row))]).bind fin := rfl
  have main : b_walk [some (.dat (mD n es)), some (.dat (.int (p : Int))), some (.dat (.str row))] = some (.ret (.dat (KA.told es p (sg row))), [some (.dat (mD n es)), some (.dat (.int (p : Int))), some (.dat (.str row))]) := by
    unfold b_walk
    refine seq_at (c_mach h rfl) (seq_at (c_place hp h.n1 rfl rfl) (seq_at (ex_call (callP2 (fz_dat rfl) (fz_dat rfl) (ev_req_reads h hl hr))) ?_))
    exact ret_dat (callP3 (fz_dat rfl) (fz_dat rfl) (fz_dat rfl) (ev_walked h hp hl hr hz))
  rw [e, main]
  rfl
theorem ev_reads_of {n : Nat} {rs : List Str} {es : List E4} (h : Mach n rs es) : m_reads_of [mD n es] = some (.dat (.str (readT es))) := by
  have e : m_reads_of [mD n es] = (b_reads_of [some (.dat (mD n es))]).bind fin := rfl
  have main : b_reads_of [some (.dat (mD n es))] = some (.ret (.dat (.str (readT es))), [some (.dat (mD n es))]) := by
    unfold b_reads_of
    exact seq_at (c_mach h rfl) (ret_dat (callP1 (fz_dat rfl) (ev_reads_in h)))
  rw [e, main]
  rfl
theorem ev_sends_of {n : Nat} {rs : List Str} {es : List E4} (h : Mach n rs es) (hm : (mails es).length ≤ 4000) : m_sends_of [mD n es] = some (.dat (.str (sendT es))) := by
  have e : m_sends_of [mD n es] = (b_sends_of [some (.dat (mD n es))]).bind fin := rfl
  have main : b_sends_of [some (.dat (mD n es))] = some (.ret (.dat (.str (sendT es))), [some (.dat (mD n es))]) := by
    unfold b_sends_of
    exact seq_at (c_mach h rfl) (ret_dat (callP1 (fz_dat rfl) (ev_sends_in h hm)))
  rw [e, main]
  rfl
theorem ev_step_of {n : Nat} {rs : List Str} {es : List E4} (h : Mach n rs es) {e : E4} (he : e ∈ es) : m_step_of [mD n es, .int (e.p : Int), .str e.r] = some (.dat (goal e)) := by
  have e0 : m_step_of [mD n es, .int (e.p : Int), .str e.r] = (b_step_of [some (.dat (mD n es)), some (.dat (.int (e.p : Int))), some (.dat (.str e.r))]).bind fin := rfl
  obtain ⟨hp, hr⟩ := h.at he
  have rq : m_require_read [mD n es, .str e.r] = some (.dat .non) := by
    have e1 : m_require_read [mD n es, .str e.r] = (b_require_read [some (.dat (mD n es)), some (.dat (.str e.r))]).bind fin := rfl
    have l := ev_letter (.str e.r) (leaf_L (h.rL _ hr))
    rw [let_L _ (h.rL _ hr)] at l
    have main : b_require_read [some (.dat (mD n es)), some (.dat (.str e.r))] = some (.next, [some (.dat (mD n es)), some (.dat (.str e.r))]) := by
      unfold b_require_read
      refine if_ff (or_ff (not_ff (tst_at (callP1 (fz_dat rfl) l))) (tst_at (bin_at (z := .dat (.bl false)) rfl (callP1 (fz_dat rfl) (ev_reads_in h)) rfl rfl ?_))) rfl
      show (some (strIn e.r (readT es))).map _ = _
      rw [in_sg _ (len_L _ (h.rL _ hr)), decide_eq_true ((h.memRead e.r).mpr hr)]
      rfl
    rw [e1, main]
    rfl
  have main : b_step_of [some (.dat (mD n es)), some (.dat (.int (e.p : Int))), some (.dat (.str e.r))] = some (.ret (.dat (goal e)), [some (.dat (mD n es)), some (.dat (.int (e.p : Int))), some (.dat (.str e.r))]) := by
    unfold b_step_of
    refine seq_at (c_mach h rfl) (seq_at (c_place hp h.n1 rfl rfl) (seq_at (ex_call (callP2 (fz_dat rfl) (fz_dat rfl) rq)) ?_))
    exact ret_dat (ix_step h he rfl (fz_dat rfl) (fz_dat rfl))
  rw [e0, main]
  rfl
/-! ### counts that are added -/
theorem val_all (F : Str → Int) : ∀ (ks : List Str) (c : C) (x : Str), val (putAll c (ks.map fun k => (k, F k))) x = if x ∈ ks then F x else val c x
  | [], c, x => by simp [putAll]
  | k :: r, c, x => by
    show val (putAll (putC c k (F k)) (r.map fun k => (k, F k))) x = _
    rw [val_all F r, val_put]
    by_cases e : x = k
    · subst e
      simp
    · simp [e]
theorem pairs_list (q : C) (h : q.length ≤ 1000) : dictF false [.lst (prs q)] = some (.own (.mK (kvC (putAll [] q)))) := by
  show (if (prs q).length ≤ sizeLine then _ else _) = _
  rw [if_pos (by rw [sizeLine_eq]; simp only [prs, List.length_map]; omega), if_neg Bool.false_ne_true, pairs_prs]
  show some (SV.own (.mK (mergeD [] (kvC q)))) = _
  rw [show ([] : List (Key × D)) = kvC [] from rfl, kvC_all]
theorem ev_law_told {c : C} (h : Ok c) : m__law_told [dC c] = some (.dat (dC (canon (val c)))) := by
  have e : m__law_told [dC c] = (b__law_told [some (.dat (dC c)), none]).bind fin := rfl
  have l := h.len
  have mem : ∀ k, k ∈ sortS (keys c) ↔ k ∈ keys c := fun k => (sortS_perm _).mem_iff
  have lc := lc_pure (vs := [1]) (fi := anyI (fzD [] (callF (consA (varD 0) nilA) sortF))) (g := nameG 1) (t := tstF (bin2 (bin2 (varD 0) (varD 1) ixD) (conD (.int 0)) (asB eqX true))) (f := tupF (consA (fzD [] (varD 1)) (consA (bin2 (varD 0) (varD 1) ixD) nilA))) (ρ := [some (.dat (dC c)), none]) D.str (fun k => decide (val c k ≠ 0)) (fun k => .tup [.str k, .int (val c k)]) (sortS (keys c)) (any_at (fz_own (call1 rfl rfl (sort_dC h))) rfl) rfl (by rw [(sortS_perm _).length_eq, sizeLine_eq]; simp only [keys, List.length_map]; omega) fun k hk => by
    have ix := ix_at (c := c) (i := 0) (j := 1) (ρ := [some (.dat (dC c)), some (.dat (.str k))]) ((mem k).mp hk) rfl rfl
    refine ⟨[some (.dat (dC c)), some (.dat (.str k))], rfl, tst_at (bin_at (z := .dat (.bl (decide (val c k ≠ 0)))) ix rfl rfl rfl ?_), rfl, fun _ => tup2 (fz_dat rfl) ix⟩
    show (eqX (.int (val c k)) (.int 0)).map _ = _
    rw [eq_int]
    by_cases z : val c k = 0 <;> simp [z]
  rw [prs_of, told_eq h] at lc
  have d := dict_prs (ok_canon (val c))
  have main : b__law_told [some (.dat (dC c)), none] = some (.ret (.dat (dC (canon (val c)))), [some (.dat (dC c)), none]) := by
    unfold b__law_told
    exact ret_dat (fz_own (call1 lc rfl d))
  rw [e, main]
  rfl
theorem ev_law_added {a b : C} (ha : Ok a) (hb : Ok b) : m__law_added [dC a, dC b] = some (.dat (dC (canon fun k => val a k + val b k))) := by
  have e : m__law_added [dC a, dC b] = (b__law_added [some (.dat (dC a)), some (.dat (dC b)), none]).bind fin := rfl
  have la := ha.len
  have lb := hb.len
  have l1 : ∀ {c : C}, Ok c → listF [dC c] = some (.own (.ml ((keys c).map D.str))) := fun {c} h => by
    have e : listF [dC c] = (itemsD (dC c)).bind fun ds => if ds.length ≤ sizeLine then some (.own (.ml ds)) else none := rfl
    rw [e, items_dC, Option.bind_some, if_pos (by rw [List.length_map]; exact keys_len h)]
  have lk : (keys a ++ keys b).length ≤ 24 := by simp [keys]; omega
  have lc := lc_map (vs := [2]) (fi := anyI (fzD [] (bin2 (callF (consA (varD 0) nilA) listF) (callF (consA (varD 1) nilA) listF) addD))) (g := nameG 2) (f := tupF (consA (fzD [] (varD 2)) (consA (fzD [] (bin2 (meF "dict" (varD 0) (consA (fzD [] (varD 2)) (consA (conD (.int 0)) nilA)) getM') (meF "dict" (varD 1) (consA (fzD [] (varD 2)) (consA (conD (.int 0)) nilA)) getM') addD)) nilA))) (ρ := [some (.dat (dC a)), some (.dat (dC b)), none]) D.str (fun k => .tup [.str k, .int (val a k + val b k)]) (keys a ++ keys b) (by
    rw [List.map_append]
    exact any_at (fz_own (bin_at (F := addD) (call1 rfl rfl (l1 ha)) (call1 rfl rfl (l1 hb)) rfl rfl (add_lst (by rw [List.length_map, List.length_map, sizeLine_eq]; rw [List.length_append] at lk; omega)))) rfl) rfl (by rw [sizeLine_eq]; omega) fun k hk => ⟨[some (.dat (dC a)), some (.dat (dC b)), some (.dat (.str k))], rfl, rfl, tup2 (fz_dat rfl) (fz_d (bin_at (z := .dat (.int (val a k + val b k))) (me_get rfl rfl) (me_get rfl rfl) rfl rfl rfl))⟩
  rw [prs_of] at lc
  have d := pairs_list ((keys a ++ keys b).map fun k => (k, val a k + val b k)) (by rw [List.length_map]; omega)
  have ok : Ok (putAll [] ((keys a ++ keys b).map fun k => (k, val a k + val b k))) := ok_all _ ⟨List.nodup_nil, fun _ h => nomatch h⟩ fun k hk => by
    have ek : keys ((keys a ++ keys b).map fun k => (k, val a k + val b k)) = keys a ++ keys b := by
      unfold keys
      rw [List.map_map]
      exact List.map_id _
    rw [ek] at hk
    rcases List.mem_append.mp hk with z | z
    · exact ha.sub k z
    · exact hb.sub k z
  have t := ev_law_told ok
  have ce : canon (val (putAll [] ((keys a ++ keys b).map fun k => (k, val a k + val b k)))) = canon fun k => val a k + val b k := canon_congr fun k _ => by
    rw [val_all]
    by_cases z : k ∈ keys a ++ keys b
    · rw [if_pos z]
    · rw [if_neg z]
      rw [List.mem_append, not_or] at z
      rw [val_out z.1, val_out z.2]
      rfl
  rw [ce] at t
  have main : b__law_added [some (.dat (dC a)), some (.dat (dC b)), none] = some (.ret (.dat (dC (canon fun k => val a k + val b k))), [some (.dat (dC a)), some (.dat (dC b)), none]) := by
    unfold b__law_added
    exact ret_dat (callP1 (fz_own (call1 lc rfl d)) t)
  rw [e, main]
  rfl
/-! ### parts of rows -/
theorem cut_lo {z : Str} {k : Nat} (h : k ≤ z.length) : sg (cutS z none (some (k : Int))) = (sg z).take k := by
  show ((z.cps.toList.drop (HT.sIx z.length 0 none)).take (HT.sIx z.length z.length (some (k : Int)) - HT.sIx z.length 0 none)).toArray.toList.map _ = _
  rw [HT.sIx_none, HT.sIx_nat, Nat.min_eq_left h]
  show ((z.cps.toList.drop 0).take (k - 0)).map _ = (z.cps.toList.map _).take k
  rw [List.drop_zero, Nat.sub_zero, List.map_take]
theorem cut_hi {z : Str} {k : Nat} (h : k ≤ z.length) : sg (cutS z (some (k : Int)) none) = (sg z).drop k := by
  show ((z.cps.toList.drop (HT.sIx z.length 0 (some (k : Int)))).take (HT.sIx z.length z.length none - HT.sIx z.length 0 (some (k : Int)))).toArray.toList.map _ = _
  rw [HT.sIx_none, HT.sIx_nat, Nat.min_eq_left h]
  show ((z.cps.toList.drop k).take (z.length - k)).map _ = (z.cps.toList.map _).drop k
  rw [List.take_of_length_le (by rw [List.length_drop, len_tl]; omega), List.map_drop]
theorem eqN_dC {c : C} (h : Ok c) (n : Nat) : eqN (n + 1) (dC c) (dC c) = some true := by
  have nd := kv_nd h
  show (if ((kvC c).map (·.1)).Nodup ∧ ((kvC c).map (·.1)).Nodup then _ else none) = _
  rw [if_pos ⟨nd, nd⟩, allO_true _ fun o ho => by
    obtain ⟨kv, h1, rfl⟩ := List.mem_map.mp ho
    rw [get_mem nd h1]
    obtain ⟨p, _, rfl⟩ := List.mem_map.mp h1
    exact eqN_int n p.2]
  simp
theorem eqN_told (es : List E4) (p : Nat) (ls : List Str) (n : Nat) : eqN (n + 2) (KA.told es p ls) (KA.told es p ls) = some true := by
  show (allO (List.zipWith (eqN (n + 1)) [.int ((go es p ls).1 : Int), dC (canon (tal (cat (go es p ls).2)))] [.int ((go es p ls).1 : Int), dC (canon (tal (cat (go es p ls).2)))])).map _ = _
  simp only [List.zipWith_cons_cons, List.zipWith_nil_left, allO, eqN_int, eqN_dC (ok_canon _), Option.bind_some, Option.map_some]
  rfl
end KA

/-! MF: steps that are stored; spots that are sorted; mails that are drawn. -/
namespace KA
open DL L2 PySem PySem.Spec PyProof.Rows LawT

/-- steps[p, r] = (g, m) -/
def putE (es : List E4) (e : E4) : List E4 := if spot e ∈ es.map spot then es.map (fun x => if spot x = spot e then e else x) else es ++ [e]
theorem key_spot (a b : E4) : key a = key b ↔ spot a = spot b := by
  constructor
  · intro z
    have z1 := (List.cons.inj z).1
    have z2 := (List.cons.inj (List.cons.inj z).2).1
    exact Prod.ext (by have := Sum.inl.inj z1; show a.p = b.p; omega) (Sum.inr.inj z2)
  · intro z
    have z1 : a.p = b.p := (Prod.mk.inj z).1
    have z2 : a.r = b.r := (Prod.mk.inj z).2
    unfold key
    rw [z1, z2]
theorem kvM_put (es : List E4) (e : E4) : putD (kvM es) (key e) (goal e) = kvM (putE es e) := by
  have a : ((kvM es).any fun kv => decide (kv.1 = key e)) = decide (spot e ∈ es.map spot) := by
    unfold kvM
    rw [List.any_map, Bool.eq_iff_iff, List.any_eq_true, decide_eq_true_eq]
    constructor
    · rintro ⟨x, h1, h2⟩
      exact List.mem_map.mpr ⟨x, h1, (key_spot x e).mp (of_decide_eq_true h2)⟩
    · intro h
      obtain ⟨x, h1, h2⟩ := List.mem_map.mp h
      exact ⟨x, h1, decide_eq_true ((key_spot x e).mpr h2)⟩
  unfold putD putE
  rw [a]
  by_cases h : spot e ∈ es.map spot
  · rw [if_pos (decide_eq_true h), if_pos h]
    unfold kvM
    rw [List.map_map, List.map_map]
    refine List.map_congr_left fun x _ => ?_
    by_cases z : spot x = spot e
    · simp [z, (key_spot x e).mpr z]
    · have : ¬ key x = key e := fun q => z ((key_spot x e).mp q)
      simp [z, this]
  · rw [if_neg (by simpa using h), if_neg h]
    unfold kvM
    rw [List.map_append]
    rfl
theorem spots_put (es : List E4) (e : E4) : (putE es e).map spot = if spot e ∈ es.map spot then es.map spot else es.map spot ++ [spot e] := by
  unfold putE
  by_cases h : spot e ∈ es.map spot
  · rw [if_pos h, if_pos h, List.map_map]
    refine List.map_congr_left fun x _ => ?_
    simp only [Function.comp]
    by_cases z : spot x = spot e
    · rw [if_pos z, z]
    · rw [if_neg z]
  · rw [if_neg h, if_neg h, List.map_append]
    rfl
theorem mem_put {es : List E4} {e x : E4} (h : x ∈ putE es e) : x ∈ es ∨ x = e := by
  unfold putE at h
  split at h
  · obtain ⟨y, h1, h2⟩ := List.mem_map.mp h
    split at h2
    · exact .inr h2.symm
    · exact .inl (h2 ▸ h1)
  · rcases List.mem_append.mp h with h | h
    · exact .inl h
    · exact .inr (List.mem_singleton.mp h)
theorem nd_put {es : List E4} {e : E4} (h : (es.map spot).Nodup) : ((putE es e).map spot).Nodup := by
  rw [spots_put]
  split
  · exact h
  · rename_i n
    exact List.nodup_append.mpr ⟨h, by simp, fun a ha b hb z => n (by rw [List.mem_singleton.mp hb] at z; exact z ▸ ha)⟩
theorem spot_put (es : List E4) (e : E4) (q : Nat × Str) : q ∈ (putE es e).map spot ↔ q ∈ es.map spot ∨ q = spot e := by
  rw [spots_put]
  split
  · rename_i h
    constructor
    · exact .inl
    · rintro (z | rfl)
      · exact z
      · exact h
  · simp
theorem len_put (es : List E4) (e : E4) : (putE es e).length ≤ es.length + 1 := by
  unfold putE
  split
  · rw [List.length_map]; omega
  · rw [List.length_append, List.length_singleton]; omega
theorem set_step {es : List E4} (h : es.length ≤ 100000) (e : E4) : setO (.mT (kvM es)) (spotD e) (goal e) = some (.mT (kvM (putE es e))) := by
  have t : toKeys [.int (e.p : Int), .str e.r] = some (key e) := rfl
  show ((toKeys [.int (e.p : Int), .str e.r]).bind fun k => if (kvM es).length < sizeLine then some (OV.mT (putD (kvM es) k (goal e))) else none) = _
  rw [t, Option.bind_some, if_pos (by rw [sizeLine_eq]; simp only [kvM, List.length_map]; omega), kvM_put]
/-- sorted(steps) -/
theorem pds_spots (es : List E4) : D.pds (es.map spotD) = some (es.map fun e => PyData.tuple [.int (e.p : Int), .str e.r]) := by
  induction es with
  | nil => rfl
  | cons e es ih =>
    rw [List.map_cons, D.pds, ih]
    rfl
theorem depth_spots (es : List E4) : PyData.depthAll (es.map fun e => PyData.tuple [.int (e.p : Int), .str e.r]) ≤ 1 := by
  induction es with
  | nil => simp [PyData.depthAll]
  | cons e es ih =>
    simp only [List.map_cons, PyData.depthAll, PyData.depth]
    omega
theorem sort_spots {es : List E4} (h : es.length ≤ 100000) : ∃ ds, sortF [.dT (kvM es)] = some (.own (.ml ds)) ∧ ds.Perm (es.map spotD) := by
  have e : sortF [.dT (kvM es)] = (itemsD (.dT (kvM es))).bind fun ds => (sortD ds).map fun es => .own (.ml es) := rfl
  refine ⟨(es.map spotD).mergeSort (PySem.W.dataLe false encD), ?_, List.mergeSort_perm _ _⟩
  rw [e, items_dT, Option.bind_some]
  unfold sortD
  rw [pds_spots, Option.bind_some]
  have c1 : alikeB (es.map fun e => PyData.tuple [.int (e.p : Int), .str e.r]) = true := by
    unfold alikeB
    simp [List.all_eq_true, PySem.W.alike, PySem.W.alikeAll]
  have c2 : sortB (es.map fun e => PyData.tuple [.int (e.p : Int), .str e.r]) = true := by
    unfold sortB
    simp [List.all_eq_true, isTupB]
  have c3 := depth_spots es
  rw [if_pos ⟨c1, c2, by omega, by rw [List.length_map, sizeLine_eq]; omega⟩]
  rfl
/-! ### mails -/
def mailOf (t : Str) : Str := cat (sortS (sg t))
theorem sg_mail (t : Str) : sg (mailOf t) = sortS (sg t) := join_sg _ fun s hs => sg_one ((sortS_perm _).mem_iff.mp hs)
theorem len_mail (t : Str) : (mailOf t).length = t.length := by
  rw [← len_sg, sg_mail, (sortS_perm _).length_eq, len_sg]
theorem mail_ok {t : Str} (h : ∀ s ∈ sg t, s ∈ L) (hl : t.length ≤ 200) : Mail (mailOf t) := ⟨fun s hs => by
  rw [sg_mail] at hs
  exact h s ((sortS_perm _).mem_iff.mp hs), by rw [sg_mail]; exact sortS_rise _, by rw [len_mail]; exact hl⟩
/-- ''.join(sorted(t)) -/
theorem me_mail {f : FE} {ρ ρ1 : EnvD} {r : RV} {t : Str} (h1 : f ρ = some (r, ρ1)) (h2 : rd ρ1 r = some (.str t)) (hl : t.length ≤ 1000000) : meF "str" (conD (.str "")) (consA (callF (consA f nilA) sortF) nilA) joinM ρ = some (.dat (.str (mailOf t)), ρ1) :=
  me_join (call1 h1 h2 (sort_strs hl)) (by
    rw [sum_one _ fun s hs => sg_one ((sortS_perm _).mem_iff.mp hs), (sortS_perm _).length_eq, len_sg]
    omega)
theorem sg_add {a b : Str} (ha : ∀ s ∈ sg a, s ∈ L) (hb : ∀ s ∈ sg b, s ∈ L) : ∀ s ∈ sg (a ++ b), s ∈ L := fun s hs => by
  rw [sg_app] at hs
  rcases List.mem_append.mp hs with z | z
  · exact ha s z
  · exact hb s z
/-- machines that are drawn -/
structure Drawn (n : Nat) (rs : List Str) (es : List E4) : Prop extends Mach n rs es where
  n25 : n ≤ 25
  m12 : ∀ e ∈ es, e.m.length ≤ 12
theorem Drawn.few {n : Nat} {rs : List Str} {es : List E4} (h : Drawn n rs es) : es.length ≤ 200 := by
  rw [h.toMach.len]
  exact Nat.le_trans (Nat.mul_le_mul h.n25 h.r8) (by decide)
theorem Drawn.mails {n : Nat} {rs : List Str} {es : List E4} (h : Drawn n rs es) : (KA.mails es).length ≤ 4000 := by
  unfold KA.mails
  rw [len_cat]
  have := sum_bound 12 (es.map (·.m)) fun s hs => by
    obtain ⟨e, he, rfl⟩ := List.mem_map.mp hs
    exact h.m12 e he
  have := h.few
  rw [List.length_map] at *
  omega
end KA

/-! MG: machines of units that are drawn. -/
namespace KA
open DL L2 PySem PySem.Spec PyProof.Rows LawT

structure Snd (s : Str) : Prop where
  h0 : 0 < s.length
  hl : s.length ≤ 1000
  sL : ∀ z ∈ sg s, z ∈ L
theorem c_mail {n : Nat} {x : OV} (h : Dice n x) (hn : n < 2 ^ 80) {k : Nat} (hk : k ≤ 20) {s : Str} (hs : Snd s) {fm fs : FE} {ρ : List (Option SV)} (h1 : fm (some (.own x) :: ρ) = some (.dat (.int k), some (.own x) :: ρ)) (h2 : fs (some (.own x) :: ρ) = some (.dat (.str s), some (.own x) :: ρ)) :
    ∃ r x', meF "str" (conD (.str "")) (consA (callF (consA (callR (gdR 3 m__law_row_drawn) (consA (varD 0) (consA fm (consA fs nilA)))) nilA) sortF) nilA) joinM (some (.own x) :: ρ) = some (.dat (.str (mailOf r)), some (.own x') :: ρ) ∧ Dice (n + 40) x' ∧ r.length ≤ k ∧ Row r := by
  obtain ⟨r, x', e, d, l, hr⟩ := ev_row_drawn h hn k hk s hs.h0 hs.hl hs.sL
  have c := callR_at (F := m__law_row_drawn) (n := 3) (ρ := ρ) (ρ1 := ρ) (ds := [.int k, .str s]) (cons_at h1 (cons_at (g := nilA) h2 rfl)) rfl e
  refine ⟨r, x', ?_, d, l, hr⟩
  generalize callR (gdR 3 m__law_row_drawn) (consA (varD 0) (consA fm (consA fs nilA))) = gg at c ⊢
  exact me_mail c rfl (by omega)
/-- a comprehension that rolls the dice and takes all items -/
theorem compL_all {vs : List Nat} {g : FG} {f : FE} {rest : List (Option SV)} {k : Nat} (Q : D → Prop) : ∀ (items : List D) (n : Nat) (x : OV), Dice n x → n + k * items.length < 2 ^ 70 →
    (∀ d ∈ items, ∀ (n : Nat) (x : OV), Dice n x → n < 2 ^ 70 → ∃ ρ1 y ρ3 x', g d (some (.own x) :: rest) = some ρ1 ∧ f ρ1 = some (.dat y, ρ3) ∧ wipeD ρ3 vs = some (.own x') :: rest ∧ Dice (n + k) x' ∧ Q y) →
    ∃ ys x', compL vs g yesT f items (some (.own x) :: rest) = some (ys, some (.own x') :: rest) ∧ Dice (n + k * items.length) x' ∧ ys.length = items.length ∧ ∀ y ∈ ys, Q y
  | [], n, x, h, _, _ => ⟨[], x, rfl, h.mono (Nat.le_add_right ..), rfl, fun _ h => nomatch h⟩
  | d :: r, n, x, h, hn, hs => by
    rw [List.length_cons, Nat.mul_add, Nat.mul_one] at hn
    obtain ⟨ρ1, y, ρ3, x1, h1, h2, h3, d1, q⟩ := hs d List.mem_cons_self n x h (by omega)
    obtain ⟨ys, x', ih, d2, l, qs⟩ := compL_all Q r (n + k) x1 d1 (by omega) fun y hy => hs y (List.mem_cons_of_mem _ hy)
    refine ⟨y :: ys, x', ?_, d2.mono (by rw [List.length_cons, Nat.mul_add]; omega), by simp [l], fun z hz => ?_⟩
    · rw [compL, h1, Option.bind_some]
      show ((f ρ1).bind _) = _
      rw [h2, Option.bind_some]
      show ((compL vs g yesT f r (wipeD ρ3 vs)).bind _) = _
      rw [h3, ih]
      rfl
    · rcases List.mem_cons.mp hz with rfl | hz
      · exact q
      · exact qs z hz
theorem strs_of {P : Str → Prop} : ∀ {ys : List D}, (∀ y ∈ ys, ∃ s, P s ∧ y = .str s) → ∃ ss : List Str, ys = ss.map D.str ∧ ∀ s ∈ ss, P s
  | [], _ => ⟨[], rfl, fun _ h => nomatch h⟩
  | y :: ys, h => by
    obtain ⟨s, hs, rfl⟩ := h y List.mem_cons_self
    obtain ⟨ss, rfl, q⟩ := strs_of fun z hz => h z (List.mem_cons_of_mem _ hz)
    exact ⟨s :: ss, rfl, fun z hz => by
      rcases List.mem_cons.mp hz with rfl | hz
      · exact hs
      · exact q z hz⟩
theorem par3_at {R : List Nat} {i j l : Nat} {f g h : FE} {ρ ρ1 ρ2 ρ3 ρ4 ρ5 ρ6 : EnvD} {r q w : RV} (h1 : f ρ = some (r, ρ1)) (h2 : g ρ1 = some (q, ρ2)) (h3 : h ρ2 = some (w, ρ3)) (h4 : putS R i r ρ3 = some ρ4) (h5 : putS R j q ρ4 = some ρ5) (h6 : putS R l w ρ5 = some ρ6) : par3F R i j l f g h ρ = some (.next, ρ6) := by
  simp only [par3F, h1, h2, h3, h4, h5, h6, Option.bind_some]
theorem item_at {j : Nat} {fv fk : FE} {F : OV → D → D → Option OV} {ρ ρ1 ρ2 : EnvD} {v d : D} {q : RV} {y y' : OV} (h1 : fv ρ = some (.dat v, ρ1)) (h0 : ∃ y0, ρ1[j]? = some (some (.own y0))) (h2 : fk ρ1 = some (q, ρ2)) (h3 : rd ρ2 q = some d) (h4 : ρ2[j]? = some (some (.own y))) (h5 : F y d v = some y') : itemF j fv fk F ρ = some (.next, ρ2.set j (some (.own y'))) := by
  obtain ⟨y0, h0⟩ := h0
  have hv : varD j ρ1 = some (.slot j, ρ1) := by
    unfold varD
    rw [h0]
  simp only [itemF, h1, hv, h2, h3, h4, h5, Option.bind_some]
/-- a loop that remembers what it has met -/
theorem loop_pre {R vs : List Nat} {g : FG} {body : FS} (I : List D → EnvD → Prop) (hv : ∀ i ∈ vs, i ∉ R) (all : List D) (st : ∀ pre d post, all = pre ++ d :: post → ∀ ρ, I pre ρ → ∃ ρ1 ρ2, g d ρ = some ρ1 ∧ body ρ1 = some (.next, ρ2) ∧ I (pre ++ [d]) ρ2) : ∀ (rest pre : List D) (ρ : EnvD), all = pre ++ rest → I pre ρ → ∃ ρ', loopF R vs g body rest ρ = some (.next, ρ') ∧ I all ρ'
  | [], pre, ρ, e, h => ⟨ρ, rfl, by rw [e, List.append_nil]; exact h⟩
  | d :: r, pre, ρ, e, h => by
    obtain ⟨ρ1, ρ2, h1, h2, h3⟩ := st pre d r e ρ h
    obtain ⟨ρ', h4, h5⟩ := loop_pre I hv all st r (pre ++ [d]) ρ2 (by rw [e]; simp) h3
    refine ⟨ρ', ?_, h5⟩
    rw [loopF, if_pos hv, h1, Option.bind_some, h2, Option.bind_some]
    exact h4
theorem rng_at {f : FE} {ρ ρ1 : EnvD} {w : Nat} (h : f ρ = some (.dat (.int (w : Int)), ρ1)) (hw : w ≤ 1000000) : rng1I (consA f nilA) ρ = some (rngL 0 w, ρ1) := by
  have q : (1000001 : Int) < 2 ^ 62 := by decide
  unfold rng1I
  rw [cons_at (g := nilA) h rfl, Option.bind_some]
  show (if _ then _ else _) = _
  rw [if_pos (by omega)]
  rfl
abbrev EU (x : OV) (rd' s : Str) (k b c : Nat) (es : List E4) (ms : List Str) (s8 s9 s10 s11 s12 s13 : Option SV) : EnvD := [some (.own x), some (.dat (.str rd')), some (.dat (.str s)), some (.dat (.int (k : Int))), some (.dat (.int (b : Int))), some (.dat (.int (c : Int))), some (.own (.mT (kvM es))), some (.own (.ml (ms.map D.str))), s8, s9, s10, s11, s12, s13]
def bodyU : FS := seqF (setF [0] 12 (bin2 (varD 12) (bin2 (varD 7) (varD 11) ixD) addD)) (setF [0] 11 (fzD [0] (ifF (tstF (bin2 (bin2 (varD 11) (conD (.int 1)) addD) (bin2 (varD 4) (varD 5) addD) ltD)) (fzD [0] (bin2 (varD 11) (conD (.int 1)) addD)) (fzD [0] (varD 4)))))
theorem unit_step (x : OV) (rd' s : Str) (k b c : Nat) (es : List E4) {ms : List Str} (s8 s9 s10 s13 : Option SV) (hb : b < b + c) (hm : ms.length = b + c) (hM : ∀ m ∈ ms, (∀ z ∈ sg m, z ∈ L) ∧ m.length ≤ k) (hk : k ≤ 100) {h : Nat} (hh : h < b + c) {t : Str} (ht : ∀ z ∈ sg t, z ∈ L) (hl : t.length ≤ 100000) :
    ∃ (h' : Nat) (t' : Str), bodyU (EU x rd' s k b c es ms s8 s9 s10 (some (.dat (.int (h : Int)))) (some (.dat (.str t))) s13) = some (.next, EU x rd' s k b c es ms s8 s9 s10 (some (.dat (.int (h' : Int)))) (some (.dat (.str t'))) s13) ∧ h' < b + c ∧ (∀ z ∈ sg t', z ∈ L) ∧ t'.length ≤ t.length + k := by
  have hr : h < ms.length := by omega
  obtain ⟨m1, m2⟩ := hM ms[h] (List.getElem_mem hr)
  have at' : atI (ms.map D.str) (h : Int) = some (.str ms[h]) := atI_nat (j := h) (by rw [List.getElem?_map, List.getElem?_eq_getElem hr]; rfl)
  have ix : ixD (.lst (ms.map D.str)) (.int (h : Int)) = some (.dat (.str ms[h])) := by
    show (atI (ms.map D.str) (h : Int)).map _ = _
    rw [at']
    rfl
  have s1 : setF [0] 12 (bin2 (varD 12) (bin2 (varD 7) (varD 11) ixD) addD) (EU x rd' s k b c es ms s8 s9 s10 (some (.dat (.int (h : Int)))) (some (.dat (.str t))) s13) = some (.next, EU x rd' s k b c es ms s8 s9 s10 (some (.dat (.int (h : Int)))) (some (.dat (.str (t ++ ms[h])))) s13) :=
    set_dat (bin_at (z := .dat (.str (t ++ ms[h]))) rfl (bin_at (z := .dat (.str ms[h])) rfl rfl rfl rfl ix) rfl rfl (add_str (by omega))) rfl
  have ct : tstF (bin2 (bin2 (varD 11) (conD (.int 1)) addD) (bin2 (varD 4) (varD 5) addD) ltD) (EU x rd' s k b c es ms s8 s9 s10 (some (.dat (.int (h : Int)))) (some (.dat (.str (t ++ ms[h])))) s13) = some (decide ((h : Int) + 1 < (b : Int) + c), EU x rd' s k b c es ms s8 s9 s10 (some (.dat (.int (h : Int)))) (some (.dat (.str (t ++ ms[h])))) s13) :=
    tst_at (bin_at (z := .dat (.bl (decide ((h : Int) + 1 < (b : Int) + c)))) (bin_at (z := .dat (.int ((h : Int) + 1))) rfl rfl rfl rfl rfl) (bin_at (z := .dat (.int ((b : Int) + c))) rfl rfl rfl rfl rfl) rfl rfl rfl)
  have gl := sg_add ht m1
  have ll : (t ++ ms[h]).length ≤ t.length + k := by rw [len_app]; omega
  unfold bodyU
  by_cases z : h + 1 < b + c
  · refine ⟨h + 1, t ++ ms[h], seq_at s1 (set_dat (ρ1 := EU x rd' s k b c es ms s8 s9 s10 (some (.dat (.int (h : Int)))) (some (.dat (.str (t ++ ms[h])))) s13) (y := .int ((h : Int) + 1)) (fz_d ?_) rfl), z, gl, ll⟩
    rw [decide_eq_true (by omega)] at ct
    unfold ifF
    rw [ct, Option.bind_some, if_pos rfl]
    exact fz_d (bin_at (z := .dat (.int ((h : Int) + 1))) rfl rfl rfl rfl rfl)
  · refine ⟨b, t ++ ms[h], seq_at s1 (set_dat (ρ1 := EU x rd' s k b c es ms s8 s9 s10 (some (.dat (.int (h : Int)))) (some (.dat (.str (t ++ ms[h])))) s13) (y := .int (b : Int)) (fz_d ?_) rfl), hb, gl, ll⟩
    rw [decide_eq_false (by omega)] at ct
    unfold ifF
    rw [ct, Option.bind_some, if_neg Bool.false_ne_true]
    rfl
def bodyPl : FS := seqF (parF [0] 11 12 (fzD [0] (varD 10)) (conD (.str ""))) (seqF (forF [0] [13] (rng1I (consA (varD 9) nilA)) (nameG 13) bodyU) (itemF 6 (tupF (consA (fzD [0] (varD 11)) (consA (meF "str" (conD (.str "")) (consA (callF (consA (varD 12) nilA) sortF) nilA) joinM) nilA))) (tupF (consA (fzD [0] (varD 10)) (consA (fzD [0] (varD 8)) nilA))) setO))
theorem place_step (x : OV) (rd' s : Str) (k b c : Nat) {es : List E4} {ms : List Str} (s11 s12 s13 : Option SV) (hb : b < b + c) (hm : ms.length = b + c) (hM : ∀ m ∈ ms, (∀ z ∈ sg m, z ∈ L) ∧ m.length ≤ k) (hk : k ≤ 60) (r : Str) {w p : Nat} (hw : w ≤ 3) (hp : p < b + c) (he : es.length ≤ 100000) :
    ∃ e s11' s12' s13', bodyPl (EU x rd' s k b c es ms (some (.dat (.str r))) (some (.dat (.int (w : Int)))) (some (.dat (.int (p : Int)))) s11 s12 s13) = some (.next, EU x rd' s k b c (putE es e) ms (some (.dat (.str r))) (some (.dat (.int (w : Int)))) (some (.dat (.int (p : Int)))) s11' s12' s13') ∧ spot e = (p, r) ∧ e.g < b + c ∧ Mail e.m ∧ e.m.length ≤ 3 * k := by
  obtain ⟨ρF, lp, h', t', s13', rfl, h1, h2, h3⟩ := loop_cnt (R := [0]) (vs := [13]) (g := nameG 13) (body := bodyU) (fun i ρ => ∃ (h : Nat) (t : Str) (s13 : Option SV), ρ = EU x rd' s k b c es ms (some (.dat (.str r))) (some (.dat (.int (w : Int)))) (some (.dat (.int (p : Int)))) (some (.dat (.int (h : Int)))) (some (.dat (.str t))) s13 ∧ h < b + c ∧ (∀ z ∈ sg t, z ∈ L) ∧ t.length ≤ k * i) (by simp) (rngL 0 w) 0 (EU x rd' s k b c es ms (some (.dat (.str r))) (some (.dat (.int (w : Int)))) (some (.dat (.int (p : Int)))) (some (.dat (.int (p : Int)))) (some (.dat (.str ""))) s13) (fun d _ j hj ρ ⟨h, t, s13, hρ, a1, a2, a3⟩ => by
    rw [rng_len] at hj
    have : k * j ≤ 60 * 3 := Nat.mul_le_mul hk (by omega)
    obtain ⟨h', t', e1, b1, b2, b3⟩ := unit_step x rd' s k b c es (some (.dat (.str r))) (some (.dat (.int (w : Int)))) (some (.dat (.int (p : Int)))) (some (.dat d)) hb hm hM (by omega) a1 a2 (by omega)
    subst hρ
    exact ⟨_, _, rfl, e1, h', t', _, rfl, b1, b2, by rw [Nat.mul_add, Nat.mul_one]; omega⟩) ⟨p, "", s13, rfl, hp, by decide +kernel, by rw [Nat.mul_zero]; decide +kernel⟩
  rw [rng_len, Nat.zero_add] at h3
  have lw : k * w ≤ k * 3 := Nat.mul_le_mul_left k hw
  have few : t'.length ≤ 3 * k := by omega
  refine ⟨⟨p, r, h', mailOf t'⟩, some (.dat (.int (h' : Int))), some (.dat (.str t')), s13', ?_, rfl, h1, mail_ok h2 (by omega), by rw [len_mail]; exact few⟩
  unfold bodyPl
  refine seq_at (ρ1 := EU x rd' s k b c es ms (some (.dat (.str r))) (some (.dat (.int (w : Int)))) (some (.dat (.int (p : Int)))) (some (.dat (.int (p : Int)))) (some (.dat (.str ""))) s13) rfl ?_
  refine seq_at (for_at (is := rngL 0 w) (ρ1 := EU x rd' s k b c es ms (some (.dat (.str r))) (some (.dat (.int (w : Int)))) (some (.dat (.int (p : Int)))) (some (.dat (.int (p : Int)))) (some (.dat (.str ""))) s13) ?_ lp) ?_
  · exact rng_at (w := w) rfl (by omega)
  · refine item_at (y := .mT (kvM es)) (tup2 (fz_dat rfl) (me_mail rfl rfl (by omega))) ⟨_, rfl⟩ (tup2 (fz_dat rfl) (fz_dat rfl)) rfl rfl ?_
    exact set_step he ⟨p, r, h', mailOf t'⟩
end KA

/-! MH: the machine of units. -/
namespace KA
open DL L2 PySem PySem.Spec PyProof.Rows LawT

theorem rng_pre {N : Nat} {pre post : List D} {d : D} (h : rngL 0 N = pre ++ d :: post) : d = .int (pre.length : Int) ∧ pre.length < N := by
  have hl : pre.length < N := by
    have := congrArg List.length h
    rw [rng_len, List.length_append, List.length_cons] at this
    omega
  have e1 : (rngL 0 N)[pre.length]? = some d := by
    rw [h, List.getElem?_append_right (Nat.le_refl _), Nat.sub_self]
    rfl
  unfold rngL at e1
  rw [List.getElem?_map, List.getElem?_range hl] at e1
  refine ⟨?_, hl⟩
  have := Option.some.inj e1
  rw [← this]
  simp
/-- a step that is well -/
def Fit (N k : Nat) (e : E4) : Prop := e.g < N ∧ Mail e.m ∧ e.m.length ≤ k
def bodyLt : FS := seqF (setF [0] 9 (callR (gdR 2 m__law_pick) (consA (varD 0) (consA (fzD [0] (lstF (consA (conD (.int 1)) (consA (conD (.int 1)) (consA (conD (.int 1)) (consA (conD (.int 2)) (consA (conD (.int 0)) (consA (conD (.int 3)) nilA)))))))) nilA)))) (forF [0] [10] (rng1I (consA (bin2 (varD 4) (varD 5) addD) nilA)) (nameG 10) bodyPl)
theorem letter_step {n : Nat} {x : OV} (hx : Dice n x) (hn : n < 2 ^ 80) (rd' s : Str) (k b c : Nat) {es : List E4} {ms : List Str} (s9 s10 s11 s12 s13 : Option SV) (hb : b < b + c) (h5 : b + c ≤ 5) (hm : ms.length = b + c) (hM : ∀ m ∈ ms, (∀ z ∈ sg m, z ∈ L) ∧ m.length ≤ k) (hk : k ≤ 60) (r : Str) (he : es.length ≤ 1000) (nd : (es.map spot).Nodup) :
    ∃ x' es' s9' s10' s11' s12' s13', bodyLt (EU x rd' s k b c es ms (some (.dat (.str r))) s9 s10 s11 s12 s13) = some (.next, EU x' rd' s k b c es' ms (some (.dat (.str r))) s9' s10' s11' s12' s13') ∧ Dice (n + 1) x' ∧ (es'.map spot).Nodup ∧ (∀ q, q ∈ es'.map spot ↔ q ∈ es.map spot ∨ ∃ p, p < b + c ∧ q = (p, r)) ∧ (∀ e ∈ es', e ∈ es ∨ Fit (b + c) (3 * k) e) ∧ es'.length ≤ es.length + (b + c) := by
  have q80 : (2 : Nat) ^ 80 < 2 ^ 100 := by decide
  obtain ⟨d, x', hd, e1, d1⟩ := ev_pick_list hx (by omega) [.int 1, .int 1, .int 1, .int 2, .int 0, .int 3] (by simp) (by simp)
  have hw : ∃ w : Nat, d = .int (w : Int) ∧ w ≤ 3 := by
    simp only [List.mem_cons, List.not_mem_nil, or_false] at hd
    rcases hd with rfl | rfl | rfl | rfl | rfl | rfl
    · exact ⟨1, rfl, by omega⟩
    · exact ⟨1, rfl, by omega⟩
    · exact ⟨1, rfl, by omega⟩
    · exact ⟨2, rfl, by omega⟩
    · exact ⟨0, rfl, by omega⟩
    · exact ⟨3, rfl, by omega⟩
  obtain ⟨w, rfl, hw⟩ := hw
  have c1 := callR_j (F := m__law_pick) (n := 2) (j := 0) (ρ := EU x rd' s k b c es ms (some (.dat (.str r))) s9 s10 s11 s12 s13) (ds := [.lst [.int 1, .int 1, .int 1, .int 2, .int 0, .int 3]]) (rest := consA (fzD [0] (lstF (consA (conD (.int 1)) (consA (conD (.int 1)) (consA (conD (.int 1)) (consA (conD (.int 2)) (consA (conD (.int 0)) (consA (conD (.int 3)) nilA)))))))) nilA) rfl (cons_at (g := nilA) (r := .dat (.lst [.int 1, .int 1, .int 1, .int 2, .int 0, .int 3])) (ρ2 := EU x rd' s k b c es ms (some (.dat (.str r))) s9 s10 s11 s12 s13) rfl rfl) rfl rfl e1
  have t1 := set_dat (R := [0]) (i := 9) (ρ2 := EU x' rd' s k b c es ms (some (.dat (.str r))) (some (.dat (.int (w : Int)))) s10 s11 s12 s13) c1 rfl
  obtain ⟨ρF, lp, es', s10', s11', s12', s13', rfl, g1, g2, g3, g4⟩ := loop_pre (R := [0]) (vs := [10]) (g := nameG 10) (body := bodyPl) (fun pre ρ => ∃ es' s10 s11 s12 s13, ρ = EU x' rd' s k b c es' ms (some (.dat (.str r))) (some (.dat (.int (w : Int)))) s10 s11 s12 s13 ∧ (es'.map spot).Nodup ∧ (∀ q, q ∈ es'.map spot ↔ q ∈ es.map spot ∨ ∃ p, p < pre.length ∧ q = (p, r)) ∧ (∀ e ∈ es', e ∈ es ∨ Fit (b + c) (3 * k) e) ∧ es'.length ≤ es.length + pre.length) (by simp) (rngL 0 (b + c)) (fun pre d post hall ρ ⟨es', s10, s11, s12, s13, hρ, a1, a2, a3, a4⟩ => by
    obtain ⟨rfl, hp⟩ := rng_pre hall
    subst hρ
    obtain ⟨e, s11', s12', s13', f1, f2, f3, f4, f5⟩ := place_step x' rd' s k b c (es := es') (ms := ms) s11 s12 s13 hb hm hM hk r hw hp (by omega)
    refine ⟨_, _, rfl, f1, putE es' e, some (.dat (.int (pre.length : Int))), s11', s12', s13', rfl, nd_put a1, fun q => ?_, fun e' he' => ?_, ?_⟩
    · rw [spot_put, a2, f2, List.length_append, List.length_singleton]
      constructor
      · rintro ((z | ⟨p, h1, h2⟩) | rfl)
        · exact .inl z
        · exact .inr ⟨p, by omega, h2⟩
        · exact .inr ⟨pre.length, by omega, rfl⟩
      · rintro (z | ⟨p, h1, h2⟩)
        · exact .inl (.inl z)
        · by_cases hpe : p = pre.length
          · exact .inr (by rw [h2, hpe])
          · exact .inl (.inr ⟨p, by omega, h2⟩)
    · rcases mem_put he' with z | rfl
      · exact a3 e' z
      · exact .inr ⟨f3, f4, f5⟩
    · have := len_put es' e
      rw [List.length_append, List.length_singleton]
      omega) (rngL 0 (b + c)) [] (EU x' rd' s k b c es ms (some (.dat (.str r))) (some (.dat (.int (w : Int)))) s10 s11 s12 s13) rfl ⟨es, s10, s11, s12, s13, rfl, nd, fun q => by simp, fun e he => .inl he, by simp⟩
  rw [rng_len] at g2 g4
  refine ⟨x', es', some (.dat (.int (w : Int))), s10', s11', s12', s13', ?_, d1, g1, g2, g3, g4⟩
  unfold bodyLt
  refine seq_at t1 (for_at (is := rngL 0 (b + c)) (rng_at (w := b + c) (bin_at (z := .dat (.int ((b : Int) + c))) rfl rfl rfl rfl rfl) (by omega)) lp)
/-- the letters that a machine is to read -/
structure Reads' (rd' : Str) : Prop where
  let' : ∀ z ∈ sg rd', z ∈ L
  nd : (sg rd').Nodup
  few : rd'.length ≤ 8
theorem pre_str {all : List Str} {pre post : List D} {d : D} (h : all.map D.str = pre ++ d :: post) : ∃ r, d = .str r ∧ r ∈ all := by
  have : d ∈ all.map D.str := by rw [h]; simp
  obtain ⟨r, h1, rfl⟩ := List.mem_map.mp this
  exact ⟨r, rfl, h1⟩
theorem ev_unit {n : Nat} {x : OV} (hx : Dice n x) (hn : n < 2 ^ 60) {rd' s : Str} (hr : Reads' rd') (hs : Snd s) {k : Nat} (hk : k ≤ 3) : ∃ (N : Nat) (es : List E4) (x' : OV), m__law_unit_machine x [.str rd', .str s, .int (k : Int)] = some ((.int (N : Int), .mT (kvM es)), x') ∧ Mach N (sg rd') es ∧ N ≤ 5 ∧ (∀ e ∈ es, e.m.length ≤ 3 * k) ∧ Dice (n + 300) x' := by
  have q60 : (2 : Nat) ^ 60 + 1000 < 2 ^ 70 := by decide
  have q70 : (2 : Nat) ^ 70 < 2 ^ 80 := by decide
  have q80 : (2 : Nat) ^ 80 < 2 ^ 100 := by decide
  have t3 : (3 : Int) ≤ 10 ^ 60 := by decide
  have e : m__law_unit_machine x [.str rd', .str s, .int (k : Int)] = (b__law_unit_machine [some (.own x), some (.dat (.str rd')), some (.dat (.str s)), some (.dat (.int (k : Int))), none, none, none, none, none, none, none, none, none, none]).bind fun p => match p.1, p.2[0]? with
    | .ret2 d z, some (some (SV.own x')) => some ((d, z), x')
    | _, _ => none := rfl
  obtain ⟨b0, x1, r1, b1, b2, d1⟩ := c_roll hx (t := 3) (by decide) t3 (by omega) (R := []) (g := conD (.int 3)) (ρ := [some (.dat (.str rd')), some (.dat (.str s)), some (.dat (.int (k : Int))), none, none, none, none, none, none, none, none, none, none]) rfl
  obtain ⟨c0, x2, r2, c1, c2, d2⟩ := c_roll d1 (t := 3) (by decide) t3 (by omega) (R := []) (g := conD (.int 3)) (ρ := [some (.dat (.str rd')), some (.dat (.str s)), some (.dat (.int (k : Int))), none, none, none, none, none, none, none, none, none, none]) rfl
  obtain ⟨b, rfl⟩ := Int.eq_ofNat_of_zero_le b1
  obtain ⟨c', rfl⟩ := Int.eq_ofNat_of_zero_le c1
  have r3 : bin2 (conD (.int 1)) (callR (gdR 2 m__law_roll) (consA (varD 0) (consA (conD (.int 3)) nilA))) addD [some (.own x1), some (.dat (.str rd')), some (.dat (.str s)), some (.dat (.int (k : Int))), none, none, none, none, none, none, none, none, none, none] = some (.dat (.int ((c' + 1 : Nat) : Int)), [some (.own x2), some (.dat (.str rd')), some (.dat (.str s)), some (.dat (.int (k : Int))), none, none, none, none, none, none, none, none, none, none]) := by
    have := bin_at (F := addD) (f := conD (.int 1)) (z := .dat (.int (1 + (c' : Int)))) (ρ := [some (.own x1), some (.dat (.str rd')), some (.dat (.str s)), some (.dat (.int (k : Int))), none, none, none, none, none, none, none, none, none, none]) rfl r2 rfl rfl rfl
    rw [show ((c' + 1 : Nat) : Int) = 1 + (c' : Int) by omega]
    exact this
  have t1 := par3_at (R := [0]) (i := 4) (j := 5) (l := 6) (h := dnewF true) (w := .own (.mT [])) r1 r3 rfl rfl rfl rfl
  obtain ⟨ys, x3, e3, d3, ly, qy⟩ := compL_all (vs := [13]) (g := nameG 13) (f := meF "str" (conD (.str "")) (consA (callF (consA (callR (gdR 3 m__law_row_drawn) (consA (varD 0) (consA (fzD [0] (varD 3)) (consA (fzD [0] (varD 2)) nilA)))) nilA) sortF) nilA) joinM) (rest := [some (.dat (.str rd')), some (.dat (.str s)), some (.dat (.int (k : Int))), some (.dat (.int (b : Int))), some (.dat (.int ((c' + 1 : Nat) : Int))), some (.own (.mT [])), none, none, none, none, none, none, none]) (k := 40) (fun y => ∃ m : Str, ((∀ z ∈ sg m, z ∈ L) ∧ m.length ≤ k) ∧ y = .str m) (rngL 0 (b + (c' + 1))) (n + 2) x2 d2 (by rw [rng_len]; omega) (fun d _ n' y hy hn' => by
    obtain ⟨r, y', m1, m2, m3, m4⟩ := c_mail hy (by omega) (k := k) (by omega) hs (fm := fzD [0] (varD 3)) (fs := fzD [0] (varD 2)) (ρ := [some (.dat (.str rd')), some (.dat (.str s)), some (.dat (.int (k : Int))), some (.dat (.int (b : Int))), some (.dat (.int ((c' + 1 : Nat) : Int))), some (.own (.mT [])), none, none, none, none, none, none, some (.dat d)]) rfl rfl
    have mo := mail_ok m4.let' (by omega)
    exact ⟨_, _, _, y', rfl, m1, rfl, m2, mailOf r, ⟨mo.let', by rw [len_mail]; exact m3⟩, rfl⟩)
  obtain ⟨ms, rfl, hM⟩ := strs_of qy
  rw [List.length_map, rng_len] at ly
  rw [rng_len] at d3
  have lcs := lcS_at (vs := [13]) (fi := rng1I (consA (bin2 (varD 4) (varD 5) addD) nilA)) (ρ := [some (.own x2), some (.dat (.str rd')), some (.dat (.str s)), some (.dat (.int (k : Int))), some (.dat (.int (b : Int))), some (.dat (.int ((c' + 1 : Nat) : Int))), some (.own (.mT [])), none, none, none, none, none, none, none]) (ρ1 := [some (.own x2), some (.dat (.str rd')), some (.dat (.str s)), some (.dat (.int (k : Int))), some (.dat (.int (b : Int))), some (.dat (.int ((c' + 1 : Nat) : Int))), some (.own (.mT [])), none, none, none, none, none, none, none]) (rng_at (w := b + (c' + 1)) (bin_at (z := .dat (.int ((b : Int) + ((c' + 1 : Nat) : Int)))) rfl rfl rfl rfl rfl) (by omega)) rfl (by rw [rng_len, sizeLine_eq]; omega) e3
  have t2 := set_own (R := [0]) (i := 7) (ρ2 := EU x3 rd' s k b (c' + 1) [] ms none none none none none none) lcs rfl
  obtain ⟨ρF, lp, x4, es, s8, s9, s10, s11, s12, s13, rfl, g0, g1, g2, g3, g4⟩ := loop_pre (R := [0]) (vs := [8]) (g := nameG 8) (body := bodyLt) (fun pre ρ => ∃ x4 es s8 s9 s10 s11 s12 s13, ρ = EU x4 rd' s k b (c' + 1) es ms s8 s9 s10 s11 s12 s13 ∧ Dice (n + 202 + pre.length) x4 ∧ (es.map spot).Nodup ∧ (∀ q : Nat × Str, q ∈ es.map spot ↔ q.1 < b + (c' + 1) ∧ D.str q.2 ∈ pre) ∧ (∀ e ∈ es, Fit (b + (c' + 1)) (3 * k) e) ∧ es.length ≤ 5 * pre.length) (by simp) ((sg rd').map D.str) (fun pre d post hall ρ ⟨x4, es, s8, s9, s10, s11, s12, s13, hρ, a0, a1, a2, a3, a4⟩ => by
    have lall := congrArg List.length hall
    rw [List.length_map, len_sg, List.length_append, List.length_cons] at lall
    have f8 := hr.few
    obtain ⟨r, rfl, hrm⟩ := pre_str hall
    subst hρ
    obtain ⟨x5, es', s9', s10', s11', s12', s13', f1, f2, f3, f4, f5, f6⟩ := letter_step a0 (by omega) rd' s k b (c' + 1) (es := es) (ms := ms) s9 s10 s11 s12 s13 (by omega) (by omega) ly hM (by omega) r (by omega) a1
    refine ⟨_, _, rfl, f1, x5, es', some (.dat (.str r)), s9', s10', s11', s12', s13', rfl, f2.mono (by rw [List.length_append, List.length_singleton]; omega), f3, fun q => ?_, fun e he => ?_, by rw [List.length_append, List.length_singleton]; omega⟩
    · rw [f4, a2, List.mem_append, List.mem_singleton]
      constructor
      · rintro (⟨h1, h2⟩ | ⟨p, h1, rfl⟩)
        · exact ⟨h1, .inl h2⟩
        · exact ⟨h1, .inr rfl⟩
      · rintro ⟨h1, h2 | h2⟩
        · exact .inl ⟨h1, h2⟩
        · exact .inr ⟨q.1, h1, Prod.ext rfl (D.str.inj h2)⟩
    · rcases f5 e he with z | z
      · exact a3 e z
      · exact z) ((sg rd').map D.str) [] (EU x3 rd' s k b (c' + 1) [] ms none none none none none none) rfl ⟨x3, [], none, none, none, none, none, none, rfl, d3.mono (by simp only [List.length_nil]; omega), List.nodup_nil, fun q => by simp, (fun e h => nomatch h), by simp⟩
  rw [List.length_map, len_sg] at g0
  have f8 := hr.few
  refine ⟨b + (c' + 1), es, x4, ?_, ⟨by omega, by omega, hr.let', hr.nd, by rw [len_sg]; exact f8, g1, fun p r => ?_, fun e he => ⟨(g3 e he).1, (g3 e he).2.1⟩⟩, by omega, fun e he => (g3 e he).2.2, g0.mono (by omega)⟩
  · have main : b__law_unit_machine [some (.own x), some (.dat (.str rd')), some (.dat (.str s)), some (.dat (.int (k : Int))), none, none, none, none, none, none, none, none, none, none] = some (.ret2 (.int ((b + (c' + 1) : Nat) : Int)) (.mT (kvM es)), EU x4 rd' s k b (c' + 1) es ms s8 s9 s10 s11 s12 s13) := by
      unfold b__law_unit_machine
      refine seq_at t1 (seq_at t2 (seq_at (for_at (is := (sg rd').map D.str) (ρ1 := EU x3 rd' s k b (c' + 1) [] ms none none none none none none) rfl lp) ?_))
      have sm : fzD [0] (bin2 (varD 4) (varD 5) addD) (EU x4 rd' s k b (c' + 1) es ms s8 s9 s10 s11 s12 s13) = some (.dat (.int ((b : Int) + ((c' + 1 : Nat) : Int))), EU x4 rd' s k b (c' + 1) es ms s8 s9 s10 s11 s12 s13) := fz_d (bin_at (z := .dat (.int ((b : Int) + ((c' + 1 : Nat) : Int)))) rfl rfl rfl rfl rfl)
      simp only [ret2F, sm, Option.bind_some]
      rw [show ((b + (c' + 1) : Nat) : Int) = (b : Int) + ((c' + 1 : Nat) : Int) by omega]
      rfl
    rw [e, main]
    rfl
  · rw [g2 (p, r)]
    simp
end KA

/-! MI: machines beside one another. -/
namespace KA
open DL L2 PySem PySem.Spec PyProof.Rows LawT

def pD (q : Nat × Nat) : D := .tup [.int (q.1 : Int), .int (q.2 : Int)]
def pP (q : Nat × Nat) : PyData := .tuple [.int (q.1 : Int), .int (q.2 : Int)]
theorem pds_p : ∀ ps : List (Nat × Nat), D.pds (ps.map pD) = some (ps.map pP)
  | [] => rfl
  | q :: ps => by
    rw [List.map_cons, D.pds, pds_p ps]
    rfl
theorem eqv_p (a b : Nat × Nat) : PyData.eqv (pP a) (pP b) = decide (a = b) := by
  have e : PyData.eqv (pP a) (pP b) = (decide ((a.1 : Int) = b.1) && decide ((a.2 : Int) = b.2)) := by
    simp [pP, PyData.eqv, PyData.eqvAll]
    first | rfl | (cases decide ((a.1 : Int) = b.1) <;> rfl) | skip
  rw [e, Bool.eq_iff_iff, Bool.and_eq_true, decide_eq_true_eq, decide_eq_true_eq, decide_eq_true_eq]
  constructor
  · rintro ⟨z1, z2⟩
    exact Prod.ext (by omega) (by omega)
  · rintro rfl
    exact ⟨rfl, rfl⟩
theorem depth_p (q : Nat × Nat) : (pP q).depth ≤ 60 := by
  simp [pP, PyData.depth, PyData.depthAll]
theorem in_pairs (ps : List (Nat × Nat)) (q : Nat × Nat) : inD (pD q) (.lst (ps.map pD)) = some (decide (q ∈ ps)) := by
  show inSeq (pD q) (ps.map pD) = _
  unfold inSeq
  rw [pds_p]
  show (if min (PyData.depthAll (ps.map pP)) (pP q).depth ≤ 60 then some ((ps.map pP).any fun y => PyData.eqv y (pP q)) else none) = _
  rw [if_pos (Nat.le_trans (Nat.min_le_right _ _) (depth_p q)), List.any_map]
  congr 1
  rw [Bool.eq_iff_iff, List.any_eq_true, decide_eq_true_eq]
  constructor
  · rintro ⟨x, h1, h2⟩
    simp only [Function.comp, eqv_p] at h2
    rw [← of_decide_eq_true h2]
    exact h1
  · intro h
    exact ⟨q, h, by simp [Function.comp, eqv_p]⟩
theorem find_p {q : Nat × Nat} : ∀ {ps : List (Nat × Nat)}, q ∈ ps → ∃ j, (ps.map pP).findIdx? (fun y => PyData.eqv y (pP q)) = some j ∧ j < ps.length
  | [], h => by cases h
  | a :: ps, h => by
    rw [List.map_cons, List.findIdx?_cons]
    rw [eqv_p]
    by_cases z : a = q
    · rw [if_pos (decide_eq_true z)]
      exact ⟨0, rfl, by simp⟩
    · rw [if_neg (by simpa using z)]
      rcases List.mem_cons.mp h with e | h
      · exact absurd e.symm z
      · obtain ⟨j, h1, h2⟩ := find_p h
        rw [h1]
        exact ⟨j + 1, rfl, by simp; omega⟩
theorem index_p {q : Nat × Nat} {ps : List (Nat × Nat)} (h : q ∈ ps) : ∃ j, indexM (.lst (ps.map pD)) [pD q] = some (.dat (.int (j : Nat))) ∧ j < ps.length := by
  obtain ⟨j, h1, h2⟩ := find_p h
  refine ⟨j, ?_, h2⟩
  have e : indexM (.lst (ps.map pD)) [pD q] = match D.pd (pD q), D.pds (ps.map pD) with
    | some p, some ps => if min (PyData.depthAll ps) p.depth ≤ 60 then (SeqAt.dataPlace ps p).map fun j => SV.dat (.int (j : Nat)) else none
    | _, _ => none := rfl
  rw [e, pds_p]
  show (if min (PyData.depthAll (ps.map pP)) (pP q).depth ≤ 60 then (SeqAt.dataPlace (ps.map pP) (pP q)).map fun j => SV.dat (.int (j : Nat)) else none) = _
  rw [if_pos (Nat.le_trans (Nat.min_le_right _ _) (depth_p q))]
  unfold SeqAt.dataPlace
  rw [h1]
  rfl
theorem me_at {T : String} {f : FE} {g : FA} {F : D → List D → Option SV} {ρ ρ1 ρ2 : EnvD} {r : RV} {rs : List RV} {d : D} {ds : List D} {z : SV} (h1 : f ρ = some (r, ρ1)) (h2 : g ρ1 = some (rs, ρ2)) (h3 : rd ρ2 r = some d) (h4 : rds ρ2 rs = some ds) (h5 : tyN d = T) (h6 : F d ds = some z) (h7 : rd ρ1 r = some d := by first | assumption | rfl) : meF T f g F ρ = some (z.r, ρ2) := by
  simp only [meF, h1, Option.bind_some, h2, h3, h4, h5, h6, h7, if_true]
abbrev EB (n1 n2 : Nat) (es1 es2 : List E4) (ps : List (Nat × Nat)) (es : List E4) (s5 s6 s7 s8 s9 s10 : Option SV) : EnvD := [some (.dat (mD n1 es1)), some (.dat (mD n2 es2)), some (.own (.ml (ps.map pD))), some (.own (.mT (kvM es))), some (.dat (.str (readT es1))), s5, s6, s7, s8, s9, s10]
def lr0 : FE := tupF (consA (bin2 (varD 9) (conD (.int 0)) ixD) (consA (bin2 (varD 10) (conD (.int 0)) ixD) nilA))
def bodyB : FS := seqF (asgF [] [7, 8] (bin2 (varD 2) (varD 5) ixD) (tupG 2 (consG (nameG 7) (consG (nameG 8) nilG)))) (seqF (parF [] 9 10 (bin2 (bin2 (varD 0) (conD (.int 1)) ixD) (tupF (consA (fzD [] (varD 7)) (consA (fzD [] (varD 6)) nilA))) ixD) (bin2 (bin2 (varD 1) (conD (.int 1)) ixD) (tupF (consA (fzD [] (varD 8)) (consA (fzD [] (varD 6)) nilA))) ixD)) (seqF (ifS (tstF (bin2 lr0 (varD 2) (asB inD true))) (exprF (mutL 2 (consA lr0 nilA) appO)) nextF) (itemF 3 (tupF (consA (meF "list" (varD 2) (consA lr0 nilA) indexM) (consA (meF "str" (conD (.str "")) (consA (callF (consA (bin2 (bin2 (varD 9) (conD (.int 1)) ixD) (bin2 (varD 10) (conD (.int 1)) ixD) addD) nilA) sortF) nilA) joinM) nilA))) (tupF (consA (fzD [] (varD 5)) (consA (fzD [] (varD 6)) nilA))) setO)))
/-- pairs, one more if it is new -/
def addP (ps : List (Nat × Nat)) (q : Nat × Nat) : List (Nat × Nat) := if q ∈ ps then ps else ps ++ [q]
theorem mem_addP (ps : List (Nat × Nat)) (q x : Nat × Nat) : x ∈ addP ps q ↔ x ∈ ps ∨ x = q := by
  unfold addP
  split
  · rename_i h
    constructor
    · exact .inl
    · rintro (z | rfl)
      · exact z
      · exact h
  · simp
theorem nd_addP {ps : List (Nat × Nat)} {q : Nat × Nat} (h : ps.Nodup) : (addP ps q).Nodup := by
  unfold addP
  split
  · exact h
  · rename_i n
    exact List.nodup_append.mpr ⟨h, by simp, fun a ha b hb z => n (by rw [List.mem_singleton.mp hb] at z; exact z ▸ ha)⟩
theorem len_addP (ps : List (Nat × Nat)) (q : Nat × Nat) : ps.length ≤ (addP ps q).length ∧ (addP ps q).length ≤ ps.length + 1 := by
  unfold addP
  split
  · omega
  · rw [List.length_append, List.length_singleton]; omega
theorem both_step {n1 n2 : Nat} {rs : List Str} {es1 es2 : List E4} (h1 : Mach n1 rs es1) (h2 : Mach n2 rs es2) (m1 : ∀ e ∈ es1, e.m.length ≤ 9) (m2 : ∀ e ∈ es2, e.m.length ≤ 3) {ps : List (Nat × Nat)} {es : List E4} (s7 s8 s9 s10 : Option SV) {t : Nat} {r : Str} (hr : r ∈ rs) (ht : t < ps.length) (hp : ∀ q ∈ ps, q.1 < n1 ∧ q.2 < n2) (lp : ps.length ≤ 1000) (le : es.length ≤ 100000) :
    ∃ q e s7' s8' s9' s10', bodyB (EB n1 n2 es1 es2 ps es (some (.dat (.int (t : Int)))) (some (.dat (.str r))) s7 s8 s9 s10) = some (.next, EB n1 n2 es1 es2 (addP ps q) (putE es e) (some (.dat (.int (t : Int)))) (some (.dat (.str r))) s7' s8' s9' s10') ∧ q.1 < n1 ∧ q.2 < n2 ∧ spot e = (t, r) ∧ e.g < (addP ps q).length ∧ Mail e.m ∧ e.m.length ≤ 12 := by
  obtain ⟨p1, p2⟩ := hp ps[t] (List.getElem_mem ht)
  obtain ⟨a, ha, a1, a2, _⟩ := h1.look p1 hr
  obtain ⟨c, hc, c1, c2, _⟩ := h2.look p2 hr
  obtain ⟨ag, am⟩ := h1.ok a ha
  obtain ⟨cg, cm⟩ := h2.ok c hc
  have am9 := m1 a ha
  have cm3 := m2 c hc
  have at' : atI (ps.map pD) (t : Int) = some (pD ps[t]) := atI_nat (j := t) (by rw [List.getElem?_map, List.getElem?_eq_getElem ht]; rfl)
  have ix : ixD (.lst (ps.map pD)) (.int (t : Int)) = some (.dat (pD ps[t])) := by
    show (atI (ps.map pD) (t : Int)).map _ = _
    rw [at']
    rfl
  have t1 : asgF [] [7, 8] (bin2 (varD 2) (varD 5) ixD) (tupG 2 (consG (nameG 7) (consG (nameG 8) nilG))) (EB n1 n2 es1 es2 ps es (some (.dat (.int (t : Int)))) (some (.dat (.str r))) s7 s8 s9 s10) = some (.next, EB n1 n2 es1 es2 ps es (some (.dat (.int (t : Int)))) (some (.dat (.str r))) (some (.dat (.int (ps[t].1 : Int)))) (some (.dat (.int (ps[t].2 : Int)))) s9 s10) := by
    have b := bin_at (F := ixD) (f := varD 2) (g := varD 5) (ρ := EB n1 n2 es1 es2 ps es (some (.dat (.int (t : Int)))) (some (.dat (.str r))) s7 s8 s9 s10) (z := .dat (pD ps[t])) rfl rfl rfl rfl ix
    simp only [asgF, b, Option.bind_some]
    rfl
  have i1 := ix_step h1 ha (fp := fzD [] (varD 7)) (fr := fzD [] (varD 6)) (i := 0) (ρ := EB n1 n2 es1 es2 ps es (some (.dat (.int (t : Int)))) (some (.dat (.str r))) (some (.dat (.int (ps[t].1 : Int)))) (some (.dat (.int (ps[t].2 : Int)))) s9 s10) rfl (by rw [a1]; rfl) (by rw [a2]; rfl)
  have i2 := ix_step h2 hc (fp := fzD [] (varD 8)) (fr := fzD [] (varD 6)) (i := 1) (ρ := EB n1 n2 es1 es2 ps es (some (.dat (.int (t : Int)))) (some (.dat (.str r))) (some (.dat (.int (ps[t].1 : Int)))) (some (.dat (.int (ps[t].2 : Int)))) s9 s10) rfl (by rw [c1]; rfl) (by rw [c2]; rfl)
  have t2 := par_dat (R := []) (i := 9) (j := 10) (ρ4 := EB n1 n2 es1 es2 ps es (some (.dat (.int (t : Int)))) (some (.dat (.str r))) (some (.dat (.int (ps[t].1 : Int)))) (some (.dat (.int (ps[t].2 : Int)))) (some (.dat (goal a))) (some (.dat (goal c)))) i1 i2 rfl rfl
  have lr : ∀ ps' : List (Nat × Nat), lr0 (EB n1 n2 es1 es2 ps' es (some (.dat (.int (t : Int)))) (some (.dat (.str r))) (some (.dat (.int (ps[t].1 : Int)))) (some (.dat (.int (ps[t].2 : Int)))) (some (.dat (goal a))) (some (.dat (goal c)))) = some (.dat (pD (a.g, c.g)), EB n1 n2 es1 es2 ps' es (some (.dat (.int (t : Int)))) (some (.dat (.str r))) (some (.dat (.int (ps[t].1 : Int)))) (some (.dat (.int (ps[t].2 : Int)))) (some (.dat (goal a))) (some (.dat (goal c)))) := fun ps' => tup2 (bin_at (z := .dat (.int (a.g : Int))) rfl rfl rfl rfl rfl) (bin_at (z := .dat (.int (c.g : Int))) rfl rfl rfl rfl rfl)
  have t3 : ifS (tstF (bin2 lr0 (varD 2) (asB inD true))) (exprF (mutL 2 (consA lr0 nilA) appO)) nextF (EB n1 n2 es1 es2 ps es (some (.dat (.int (t : Int)))) (some (.dat (.str r))) (some (.dat (.int (ps[t].1 : Int)))) (some (.dat (.int (ps[t].2 : Int)))) (some (.dat (goal a))) (some (.dat (goal c)))) = some (.next, EB n1 n2 es1 es2 (addP ps (a.g, c.g)) es (some (.dat (.int (t : Int)))) (some (.dat (.str r))) (some (.dat (.int (ps[t].1 : Int)))) (some (.dat (.int (ps[t].2 : Int)))) (some (.dat (goal a))) (some (.dat (goal c)))) := by
    have tst := tst_at (bin_at (F := asB inD true) (g := varD 2) (z := .dat (.bl (!decide ((a.g, c.g) ∈ ps)))) (lr ps) rfl rfl rfl (by show (inD (pD (a.g, c.g)) (.lst (ps.map pD))).map _ = _; rw [in_pairs]; rfl))
    by_cases z : (a.g, c.g) ∈ ps
    · rw [decide_eq_true z] at tst
      unfold addP
      rw [if_pos z]
      exact if_ff tst rfl
    · rw [decide_eq_false z] at tst
      unfold addP
      rw [if_neg z]
      refine if_tt tst ?_
      have m := mutL_at (j := 2) (F := appO) (xs := ps.map pD) (g := consA lr0 nilA) (y := .ml (ps.map pD)) rfl (cons_at (g := nilA) (lr ps) rfl) rfl (app_at (by rw [List.length_map, sizeLine_eq]; omega))
      have e2 : (ps ++ [(a.g, c.g)]).map pD = ps.map pD ++ [pD (a.g, c.g)] := by rw [List.map_append]; rfl
      unfold exprF
      rw [m, ← e2]
      rfl
  have hin : (a.g, c.g) ∈ addP ps (a.g, c.g) := (mem_addP _ _ _).mpr (.inr rfl)
  obtain ⟨j, j1, j2⟩ := index_p hin
  have gl := sg_add am.let' cm.let'
  have ll : (a.m ++ c.m).length ≤ 12 := by rw [len_app]; omega
  refine ⟨(a.g, c.g), ⟨t, r, j, mailOf (a.m ++ c.m)⟩, some (.dat (.int (ps[t].1 : Int))), some (.dat (.int (ps[t].2 : Int))), some (.dat (goal a)), some (.dat (goal c)), seq_at t1 (seq_at t2 (seq_at t3 ?_)), ag, cg, rfl, j2, mail_ok gl (by omega), by rw [len_mail]; exact ll⟩
  have fi : meF "list" (varD 2) (consA lr0 nilA) indexM (EB n1 n2 es1 es2 (addP ps (a.g, c.g)) es (some (.dat (.int (t : Int)))) (some (.dat (.str r))) (some (.dat (.int (ps[t].1 : Int)))) (some (.dat (.int (ps[t].2 : Int)))) (some (.dat (goal a))) (some (.dat (goal c)))) = some (.dat (.int (j : Int)), EB n1 n2 es1 es2 (addP ps (a.g, c.g)) es (some (.dat (.int (t : Int)))) (some (.dat (.str r))) (some (.dat (.int (ps[t].1 : Int)))) (some (.dat (.int (ps[t].2 : Int)))) (some (.dat (goal a))) (some (.dat (goal c)))) := by
    exact me_at (T := "list") (z := .dat (.int (j : Int))) rfl (cons_at (g := nilA) (lr (addP ps (a.g, c.g))) rfl) rfl rfl rfl j1
  have fm := me_mail (f := bin2 (bin2 (varD 9) (conD (.int 1)) ixD) (bin2 (varD 10) (conD (.int 1)) ixD) addD) (ρ := EB n1 n2 es1 es2 (addP ps (a.g, c.g)) es (some (.dat (.int (t : Int)))) (some (.dat (.str r))) (some (.dat (.int (ps[t].1 : Int)))) (some (.dat (.int (ps[t].2 : Int)))) (some (.dat (goal a))) (some (.dat (goal c)))) (bin_at (z := .dat (.str (a.m ++ c.m))) (bin_at (z := .dat (.str a.m)) rfl rfl rfl rfl rfl) (bin_at (z := .dat (.str c.m)) rfl rfl rfl rfl rfl) rfl rfl (add_str (by omega))) rfl (by omega)
  refine item_at (y := .mT (kvM es)) (tup2 fi fm) ⟨_, rfl⟩ (tup2 (fz_dat rfl) (fz_dat rfl)) rfl rfl ?_
  exact set_step le ⟨t, r, j, mailOf (a.m ++ c.m)⟩
end KA

/-! MJ: the machine of both. -/
namespace KA
open DL L2 PySem PySem.Spec PyProof.Rows LawT

/-- what stands while machines are put beside one another -/
structure BI (n1 n2 : Nat) (ps : List (Nat × Nat)) (es : List E4) : Prop where
  ne : 0 < ps.length
  nd : ps.Nodup
  box : ∀ q ∈ ps, q.1 < n1 ∧ q.2 < n2
  sp : (es.map spot).Nodup
  ok : ∀ e ∈ es, e.g < ps.length ∧ Mail e.m ∧ e.m.length ≤ 12
theorem BI.len {n1 n2 : Nat} {ps : List (Nat × Nat)} {es : List E4} (h : BI n1 n2 ps es) : ps.length ≤ n1 * n2 := by
  obtain ⟨l, nd⟩ := prod_len (rs := List.range n2) List.nodup_range n1
  have p : ps.Perm (((List.range n1).flatMap fun p => (List.range n2).map fun r => (p, r)).filter fun q => decide (q ∈ ps)) := (List.perm_ext_iff_of_nodup h.nd (nd.filter _)).mpr fun q => by
    rw [List.mem_filter, decide_eq_true_eq]
    refine ⟨fun hq => ⟨?_, hq⟩, fun hq => hq.2⟩
    obtain ⟨b1, b2⟩ := h.box q hq
    exact List.mem_flatMap.mpr ⟨q.1, List.mem_range.mpr b1, List.mem_map.mpr ⟨q.2, List.mem_range.mpr b2, rfl⟩⟩
  have := List.length_filter_le (fun q => decide (q ∈ ps)) ((List.range n1).flatMap fun p => (List.range n2).map fun r => (p, r))
  rw [p.length_eq]
  rw [l, List.length_range] at this
  exact this
theorem BI.step {n1 n2 : Nat} {ps : List (Nat × Nat)} {es : List E4} (h : BI n1 n2 ps es) {q : Nat × Nat} {e : E4} (q1 : q.1 < n1) (q2 : q.2 < n2) (e1 : e.g < (addP ps q).length) (e2 : Mail e.m) (e3 : e.m.length ≤ 12) : BI n1 n2 (addP ps q) (putE es e) := by
  have l := len_addP ps q
  have ne := h.ne
  refine ⟨by omega, nd_addP h.nd, fun x hx => ?_, nd_put h.sp, fun x hx => ?_⟩
  · rcases (mem_addP _ _ _).mp hx with z | rfl
    · exact h.box x z
    · exact ⟨q1, q2⟩
  · rcases mem_put hx with z | rfl
    · obtain ⟨a, b, c⟩ := h.ok x z
      exact ⟨by omega, b, c⟩
    · exact ⟨e1, e2, e3⟩
theorem letters_step {n1 n2 : Nat} {rs : List Str} {es1 es2 : List E4} (h1 : Mach n1 rs es1) (h2 : Mach n2 rs es2) (m1 : ∀ e ∈ es1, e.m.length ≤ 9) (m2 : ∀ e ∈ es2, e.m.length ≤ 3) (b1 : n1 ≤ 5) (b2 : n2 ≤ 5) {ps : List (Nat × Nat)} {es : List E4} (s6 s7 s8 s9 s10 : Option SV) {t : Nat} (ht : t < ps.length) (hb : BI n1 n2 ps es) (le : es.length ≤ 1000) (nt : ∀ q ∈ es.map spot, q.1 < t) :
    ∃ ps' es' s6' s7' s8' s9' s10', loopF [] [6] (nameG 6) bodyB ((sg (readT es1)).map D.str) (EB n1 n2 es1 es2 ps es (some (.dat (.int (t : Int)))) s6 s7 s8 s9 s10) = some (.next, EB n1 n2 es1 es2 ps' es' (some (.dat (.int (t : Int)))) s6' s7' s8' s9' s10') ∧ t < ps'.length ∧ BI n1 n2 ps' es' ∧ (∀ q : Nat × Str, q ∈ es'.map spot ↔ q ∈ es.map spot ∨ (q.1 = t ∧ q.2 ∈ rs)) ∧ es'.length ≤ es.length + 8 := by
  have r8 := h1.r8
  obtain ⟨ρF, lp, ps', es', s6', s7', s8', s9', s10', rfl, g1, g2, g3, g4⟩ := loop_pre (R := []) (vs := [6]) (g := nameG 6) (body := bodyB) (fun pre ρ => ∃ ps' es' s6 s7 s8 s9 s10, ρ = EB n1 n2 es1 es2 ps' es' (some (.dat (.int (t : Int)))) s6 s7 s8 s9 s10 ∧ t < ps'.length ∧ BI n1 n2 ps' es' ∧ (∀ q : Nat × Str, q ∈ es'.map spot ↔ q ∈ es.map spot ∨ (q.1 = t ∧ D.str q.2 ∈ pre)) ∧ es'.length ≤ es.length + pre.length) (by simp) ((sg (readT es1)).map D.str) (fun pre d post hall ρ ⟨ps', es', s6, s7, s8, s9, s10, hρ, a1, a2, a3, a4⟩ => by
    have lall := congrArg List.length hall
    rw [List.length_map, len_sg, h1.lenRead, List.length_append, List.length_cons] at lall
    obtain ⟨r, rfl, hr⟩ := pre_str hall
    have hrs : r ∈ rs := (h1.memRead r).mp hr
    subst hρ
    have pl := a2.len
    have : n1 * n2 ≤ 5 * 5 := Nat.mul_le_mul b1 b2
    obtain ⟨q, e, s7', s8', s9', s10', f1, f2, f3, f4, f5, f6, f7⟩ := both_step h1 h2 m1 m2 (ps := ps') (es := es') s7 s8 s9 s10 hrs a1 a2.box (by omega) (by omega)
    have al := len_addP ps' q
    refine ⟨_, _, rfl, f1, addP ps' q, putE es' e, some (.dat (.str r)), s7', s8', s9', s10', rfl, by omega, a2.step f2 f3 f5 f6 f7, fun x => ?_, by have := len_put es' e; rw [List.length_append, List.length_singleton]; omega⟩
    rw [spot_put, a3, f4, List.mem_append, List.mem_singleton]
    constructor
    · rintro ((z | ⟨z1, z2⟩) | rfl)
      · exact .inl z
      · exact .inr ⟨z1, .inl z2⟩
      · exact .inr ⟨rfl, .inr rfl⟩
    · rintro (z | ⟨z1, z2 | z2⟩)
      · exact .inl (.inl z)
      · exact .inl (.inr ⟨z1, z2⟩)
      · exact .inr (Prod.ext z1 (D.str.inj z2))) ((sg (readT es1)).map D.str) [] (EB n1 n2 es1 es2 ps es (some (.dat (.int (t : Int)))) s6 s7 s8 s9 s10) rfl ⟨ps, es, s6, s7, s8, s9, s10, rfl, ht, hb, fun q => by simp, by simp⟩
  rw [List.length_map, len_sg, h1.lenRead] at g4
  refine ⟨ps', es', s6', s7', s8', s9', s10', lp, g1, g2, fun q => ?_, by omega⟩
  rw [g3 q]
  have : D.str q.2 ∈ (sg (readT es1)).map D.str ↔ q.2 ∈ rs := by
    rw [← h1.memRead q.2]
    simp
  rw [this]
theorem ev_both {n1 n2 : Nat} {rs : List Str} {es1 es2 : List E4} (h1 : Mach n1 rs es1) (h2 : Mach n2 rs es2) (m1 : ∀ e ∈ es1, e.m.length ≤ 9) (m2 : ∀ e ∈ es2, e.m.length ≤ 3) (b1 : n1 ≤ 5) (b2 : n2 ≤ 5) : ∃ (N : Nat) (es : List E4), m__law_both [mD n1 es1, mD n2 es2] = some (.int (N : Int), .mT (kvM es)) ∧ Drawn N rs es := by
  have e : m__law_both [mD n1 es1, mD n2 es2] = (b__law_both [some (.dat (mD n1 es1)), some (.dat (mD n2 es2)), none, none, none, none, none, none, none, none, none]).bind fun p => match p.1 with
    | .ret2 d x => some (d, x)
    | _ => none := rfl
  have le1 : es1.length ≤ 1000 := by
    rw [h1.len]
    have : n1 * rs.length ≤ 5 * 8 := Nat.mul_le_mul b1 h1.r8
    omega
  have lr := ev_law_reads h1 le1
  have n10 := h1.n0
  have n20 := h2.n0
  have bx : n1 * n2 ≤ 5 * 5 := Nat.mul_le_mul b1 b2
  have t1 := par3_at (R := []) (i := 2) (j := 3) (l := 4) (f := lstF (consA (tupF (consA (conD (.int 0)) (consA (conD (.int 0)) nilA))) nilA)) (g := dnewF true) (h := callP (gdP 1 m__law_reads) (consA (fzD [] (varD 0)) nilA)) (ρ := [some (.dat (mD n1 es1)), some (.dat (mD n2 es2)), none, none, none, none, none, none, none, none, none]) (r := .own (.ml [pD (0, 0)])) (q := .own (.mT [])) (ρ1 := [some (.dat (mD n1 es1)), some (.dat (mD n2 es2)), none, none, none, none, none, none, none, none, none]) (ρ2 := [some (.dat (mD n1 es1)), some (.dat (mD n2 es2)), none, none, none, none, none, none, none, none, none]) rfl rfl (callP1 (fz_dat rfl) lr) rfl rfl rfl
  obtain ⟨ρF, lp, ps, es, s5, s6, s7, s8, s9, s10, rfl, g1, g2, g3⟩ := loop_pre (R := []) (vs := [5]) (g := nameG 5) (body := forF [] [6] (anyI (fzD [] (ifF (tstF (bin2 (varD 5) (callF (consA (varD 2) nilA) lenS) ltD)) (fzD [] (varD 4)) (conD (.str ""))))) (nameG 6) bodyB) (fun pre ρ => ∃ ps es s5 s6 s7 s8 s9 s10, ρ = EB n1 n2 es1 es2 ps es s5 s6 s7 s8 s9 s10 ∧ BI n1 n2 ps es ∧ (∀ q : Nat × Str, q ∈ es.map spot ↔ q.1 < min pre.length ps.length ∧ q.2 ∈ rs) ∧ es.length ≤ 8 * pre.length) (by simp) (rngL 0 (n1 * n2)) (fun pre d post hall ρ ⟨ps, es, s5, s6, s7, s8, s9, s10, hρ, a1, a2, a3⟩ => by
    obtain ⟨rfl, hp⟩ := rng_pre hall
    subst hρ
    have lf : lenS [.lst (ps.map pD)] = some (.dat (.int ps.length)) := by
      show some (SV.dat (.int ((ps.map pD).length : Int))) = _
      rw [List.length_map]
    have ct : tstF (bin2 (varD 5) (callF (consA (varD 2) nilA) lenS) ltD) (EB n1 n2 es1 es2 ps es (some (.dat (.int (pre.length : Int)))) s6 s7 s8 s9 s10) = some (decide ((pre.length : Int) < ps.length), EB n1 n2 es1 es2 ps es (some (.dat (.int (pre.length : Int)))) s6 s7 s8 s9 s10) := tst_at (bin_at (z := .dat (.bl (decide ((pre.length : Int) < ps.length)))) rfl (call1 rfl rfl lf) rfl rfl rfl)
    by_cases z : pre.length < ps.length
    · obtain ⟨ps', es', s6', s7', s8', s9', s10', f1, f2, f3, f4, f5⟩ := letters_step h1 h2 m1 m2 b1 b2 (ps := ps) (es := es) s6 s7 s8 s9 s10 z a1 (by omega) fun q hq => by
        have := ((a2 q).mp hq).1
        omega
      have fi : anyI (fzD [] (ifF (tstF (bin2 (varD 5) (callF (consA (varD 2) nilA) lenS) ltD)) (fzD [] (varD 4)) (conD (.str "")))) (EB n1 n2 es1 es2 ps es (some (.dat (.int (pre.length : Int)))) s6 s7 s8 s9 s10) = some ((sg (readT es1)).map D.str, EB n1 n2 es1 es2 ps es (some (.dat (.int (pre.length : Int)))) s6 s7 s8 s9 s10) := by
        refine any_at (d := .str (readT es1)) (fz_d ?_) rfl
        rw [decide_eq_true (by omega)] at ct
        unfold ifF
        rw [ct, Option.bind_some, if_pos rfl]
        rfl
      refine ⟨_, _, rfl, for_at fi f1, ps', es', _, s6', s7', s8', s9', s10', rfl, f3, fun q => ?_, by rw [List.length_append, List.length_singleton]; omega⟩
      rw [f4, a2, List.length_append, List.length_singleton]
      constructor
      · rintro (⟨y1, y2⟩ | ⟨y1, y2⟩)
        · exact ⟨by omega, y2⟩
        · exact ⟨by omega, y2⟩
      · rintro ⟨y1, y2⟩
        by_cases w : q.1 = pre.length
        · exact .inr ⟨w, y2⟩
        · exact .inl ⟨by omega, y2⟩
    · have fi : anyI (fzD [] (ifF (tstF (bin2 (varD 5) (callF (consA (varD 2) nilA) lenS) ltD)) (fzD [] (varD 4)) (conD (.str "")))) (EB n1 n2 es1 es2 ps es (some (.dat (.int (pre.length : Int)))) s6 s7 s8 s9 s10) = some ([], EB n1 n2 es1 es2 ps es (some (.dat (.int (pre.length : Int)))) s6 s7 s8 s9 s10) := by
        refine any_at (d := .str "") (fz_d ?_) (by
          have : sg ("" : Str) = [] := by decide +kernel
          show some ((sg "").map D.str) = _
          rw [this]
          rfl)
        rw [decide_eq_false (by omega)] at ct
        unfold ifF
        rw [ct, Option.bind_some, if_neg Bool.false_ne_true]
        rfl
      refine ⟨_, _, rfl, for_at fi rfl, ps, es, _, s6, s7, s8, s9, s10, rfl, a1, fun q => ?_, by rw [List.length_append, List.length_singleton]; omega⟩
      rw [a2, List.length_append, List.length_singleton]
      have : min pre.length ps.length = min (pre.length + 1) ps.length := by omega
      rw [this]) (rngL 0 (n1 * n2)) [] (EB n1 n2 es1 es2 [(0, 0)] [] none none none none none none) rfl ⟨[(0, 0)], [], none, none, none, none, none, none, rfl, ⟨by simp, by simp, fun q hq => by
        rw [List.mem_singleton.mp hq]
        exact ⟨n10, n20⟩, by simp, fun e h => nomatch h⟩, fun q => by simp, by simp⟩
  rw [rng_len] at g2 g3
  have pl := g1.len
  refine ⟨ps.length, es, ?_, ⟨⟨g1.ne, by omega, h1.rL, h1.rN, h1.r8, g1.sp, fun p r => ?_, fun e he => ⟨(g1.ok e he).1, (g1.ok e he).2.1⟩⟩, by omega, fun e he => (g1.ok e he).2.2⟩⟩
  · have main : b__law_both [some (.dat (mD n1 es1)), some (.dat (mD n2 es2)), none, none, none, none, none, none, none, none, none] = some (.ret2 (.int (ps.length : Int)) (.mT (kvM es)), EB n1 n2 es1 es2 ps es s5 s6 s7 s8 s9 s10) := by
      unfold b__law_both
      refine seq_at t1 (seq_at (for_at (is := rngL 0 (n1 * n2)) (ρ1 := EB n1 n2 es1 es2 [(0, 0)] [] none none none none none none) ?_ lp) ?_)
      · exact rng_at (w := n1 * n2) (bin_at (F := mulD) (z := .dat (.int ((n1 * n2 : Nat) : Int))) (ixM0 rfl) (ixM0 rfl) rfl rfl (by
          rw [Int.natCast_mul]
          have : (10 : Nat) < 2 ^ 250 := by decide
          exact mul_ok (by omega) (by omega))) (by omega)
      · have lf : lenS [.lst (ps.map pD)] = some (.dat (.int ps.length)) := by
          show some (SV.dat (.int ((ps.map pD).length : Int))) = _
          rw [List.length_map]
        have c := call1 (f := varD 2) (F := lenS) (ρ := EB n1 n2 es1 es2 ps es s5 s6 s7 s8 s9 s10) rfl rfl lf
        simp only [ret2F, c, Option.bind_some, SV.r]
        rfl
    rw [e, main]
    rfl
  · rw [g2 (p, r)]
    have : min (n1 * n2) ps.length = ps.length := by omega
    rw [this]
end KA

/-! MK: even machines, any machines. -/
namespace KA
open DL L2 PySem PySem.Spec PyProof.Rows LawT

theorem datA_map : ∀ l : List D, datA (l.map .dat) = some l
  | [] => rfl
  | d :: l => by simp [datA, datA_map l]
theorem call2_at {F : FR2} {n j : Nat} {rest : FA} {x y y' : OV} {ρ ρ1 : EnvD} {ds : List D} {z : D × OV} (h0 : ρ[j]? = some (some (.own x))) (h1 : rest ρ = some (ds.map .dat, ρ1)) (h3 : ρ1[j]? = some (some (.own y))) (hl : ds.length + 1 = n) (h2 : F y ds = some (z, y')) : call2 (gd2R n F) (consA (varD j) rest) ρ = some (z, ρ1.set j (some (.own y'))) := by
  have hv : varD j ρ = some (.slot j, ρ) := by
    unfold varD
    rw [h0]
  simp only [call2, consA, hv, h1, Option.bind_some, h3, datA_map, gd2R, hl, if_true, h2]
theorem callR2z_at {F : FR2} {n j : Nat} {rest : FA} {x y y' : OV} {ρ ρ1 : EnvD} {ds : List D} {z : D × OV} (h0 : ρ[j]? = some (some (.own x))) (h1 : rest ρ = some (ds.map .dat, ρ1)) (h3 : ρ1[j]? = some (some (.own y))) (hl : ds.length + 1 = n) (h2 : F y ds = some (z, y')) : callR2z (gd2R n F) (consA (varD j) rest) ρ = some (.dat (.tup [z.1, z.2.d]), ρ1.set j (some (.own y'))) := by
  have hv : varD j ρ = some (.slot j, ρ) := by
    unfold varD
    rw [h0]
  simp only [callR2z, consA, hv, h1, Option.bind_some, h3, datA_map, gd2R, hl, if_true, h2]
theorem asgR2_at {R : List Nat} {i k : Nat} {F : FR2} {n j : Nat} {rest : FA} {x y y' : OV} {ρ ρ1 ρ2 ρ3 : EnvD} {ds : List D} {z : D × OV} (h0 : ρ[j]? = some (some (.own x))) (h1 : rest ρ = some (ds.map .dat, ρ1)) (h3 : ρ1[j]? = some (some (.own y))) (hl : ds.length + 1 = n) (h2 : F y ds = some (z, y')) (h4 : putS R i (.dat z.1) (ρ1.set j (some (.own y'))) = some ρ2) (h5 : putS R k (.own z.2) ρ2 = some ρ3) : asgR2F R i k (gd2R n F) (consA (varD j) rest) ρ = some (.next, ρ3) := by
  have hv : varD j ρ = some (.slot j, ρ) := by
    unfold varD
    rw [h0]
  simp only [asgR2F, consA, hv, h1, Option.bind_some, h3, datA_map, gd2R, hl, if_true, h2, h4, h5]
theorem tup2' {f g : FE} {ρ ρ1 ρ2 : EnvD} {d e : D} (h1 : f ρ = some (.dat d, ρ1)) (h2 : g ρ1 = some (.dat e, ρ2)) : tupF (consA f (consA g nilA)) ρ = some (.dat (.tup [d, e]), ρ2) := by
  have c := cons_at h1 (cons_at (g := nilA) h2 rfl)
  simp only [tupF, c, Option.bind_some, datA]
  rw [if_pos (by rw [sizeLine_eq]; show 2 ≤ 16777216; decide)]
theorem and_tt' {f g : FT} {ρ ρ1 : EnvD} {out : Option (Bool × EnvD)} (h : f ρ = some (true, ρ1)) (h2 : g ρ1 = out) : andT f g ρ = out := by
  simp only [andT, h, Option.bind_some, if_true, h2]
theorem and_ff' {f g : FT} {ρ ρ1 : EnvD} (h : f ρ = some (false, ρ1)) : andT f g ρ = some (false, ρ1) := by
  simp only [andT, h, Option.bind_some, Bool.false_eq_true, if_false]
abbrev EE (x : OV) (rd' s : Str) (v : Option SV) : EnvD := [some (.own x), some (.dat (.str rd')), some (.dat (.str s)), some (.dat (.int 3)), v]
theorem roll_is {n : Nat} {x : OV} (h : Dice n x) (hn : n < 2 ^ 100) {t : Int} (t0 : 0 < t) (t1 : t ≤ 1000) (ρ : List (Option SV)) : ∃ r x', tstF (bin2 (callR (gdR 2 m__law_roll) (consA (varD 0) (consA (conD (.int t)) nilA))) (conD (.int 0)) (asB eqX false)) (some (.own x) :: ρ) = some (decide (r = (0 : Int)), some (.own x') :: ρ) ∧ Dice (n + 1) x' := by
  have far : (1000 : Int) ≤ 10 ^ 60 := by decide
  obtain ⟨r, x', e, r0, r1, d⟩ := c_roll h t0 (by omega) hn (R := []) (g := conD (.int t)) (ρ := ρ) rfl
  refine ⟨r, x', ?_, d⟩
  generalize callR (gdR 2 m__law_roll) (consA (varD 0) (consA (conD (.int t)) nilA)) = gg at e ⊢
  exact tst_at (bin_at (z := .dat (.bl (decide (r = 0)))) e rfl rfl rfl (by show (eqX (.int r) (.int 0)).map _ = _; rw [eq_int]; rfl))
theorem Mach.drawn {N : Nat} {rs : List Str} {es : List E4} (h : Mach N rs es) (hN : N ≤ 5) (hm : ∀ e ∈ es, e.m.length ≤ 3 * 3) : Drawn N rs es := ⟨h, by omega, fun e he => by have := hm e he; omega⟩
theorem ev_even {n : Nat} {x : OV} (hx : Dice n x) (hn : n < 2 ^ 59) {rd' s : Str} (hr : Reads' rd') (hs : Snd s) : ∃ (N : Nat) (es : List E4) (x' : OV), m__law_even_machine x [.str rd', .str s, .int 3] = some ((.int (N : Int), .mT (kvM es)), x') ∧ Drawn N (sg rd') es ∧ Dice (n + 700) x' := by
  have q59 : (2 : Nat) ^ 59 + 1000 < 2 ^ 60 := by decide
  have q60 : (2 : Nat) ^ 60 < 2 ^ 100 := by decide
  obtain ⟨N, es, x1, e1, h1, hN, hm, d1⟩ := ev_unit hx (by omega) hr hs (k := 3) (by omega)
  have c1 := call2_at (F := m__law_unit_machine) (n := 4) (j := 0) (ρ := EE x rd' s none) (ds := [.str rd', .str s, .int 3]) (rest := consA (fzD [0] (varD 1)) (consA (fzD [0] (varD 2)) (consA (fzD [0] (varD 3)) nilA))) rfl rfl rfl rfl e1
  have t1 : tstF (bin2 (varD 1) (conD (.str "")) (asB eqX true)) (EE x1 rd' s none) = some (!decide (rd' = ""), EE x1 rd' s none) := tst_at (bin_at (z := .dat (.bl (!decide (rd' = "")))) rfl rfl rfl rfl (by show (eqX (.str rd') (.str "")).map _ = _; rw [eq_strs]; rfl))
  have unf : m__law_even_machine x [.str rd', .str s, .int 3] = (evenB 4 (gd2R 4 m__law_unit_machine) (consA (varD 0) (consA (fzD [0] (varD 1)) (consA (fzD [0] (varD 2)) (consA (fzD [0] (varD 3)) nilA)))) (andT (tstF (bin2 (varD 1) (conD (.str "")) (asB eqX true))) (tstF (bin2 (callR (gdR 2 m__law_roll) (consA (varD 0) (consA (conD (.int 3)) nilA))) (conD (.int 0)) (asB eqX false)))) m__law_both (callR2z (gd2R 4 m__law_unit_machine) (consA (varD 0) (consA (fzD [0] (varD 1)) (consA (fzD [0] (varD 2)) (consA (callF (consA (varD 3) (consA (conD (.int 1)) nilA)) minF) nilA))))) (EE x rd' s none)).bind fun p => match p.2[0]? with
    | some (some (SV.own x')) => some (p.1, x')
    | _ => none := rfl
  have main : ∃ (N : Nat) (es : List E4) (x' : OV) (ρ' : EnvD), evenB 4 (gd2R 4 m__law_unit_machine) (consA (varD 0) (consA (fzD [0] (varD 1)) (consA (fzD [0] (varD 2)) (consA (fzD [0] (varD 3)) nilA)))) (andT (tstF (bin2 (varD 1) (conD (.str "")) (asB eqX true))) (tstF (bin2 (callR (gdR 2 m__law_roll) (consA (varD 0) (consA (conD (.int 3)) nilA))) (conD (.int 0)) (asB eqX false)))) m__law_both (callR2z (gd2R 4 m__law_unit_machine) (consA (varD 0) (consA (fzD [0] (varD 1)) (consA (fzD [0] (varD 2)) (consA (callF (consA (varD 3) (consA (conD (.int 1)) nilA)) minF) nilA))))) (EE x rd' s none) = some ((.int (N : Int), .mT (kvM es)), ρ') ∧ ρ'[0]? = some (some (.own x')) ∧ Drawn N (sg rd') es ∧ Dice (n + 700) x' := by
    have c1' : call2 (gd2R 4 m__law_unit_machine) (consA (varD 0) (consA (fzD [0] (varD 1)) (consA (fzD [0] (varD 2)) (consA (fzD [0] (varD 3)) nilA)))) (EE x rd' s none) = some ((.int (N : Int), .mT (kvM es)), EE x1 rd' s none) := c1
    by_cases z : rd' = ""
    · rw [decide_eq_true z] at t1
      refine ⟨N, es, x1, EE x1 rd' s none, ?_, rfl, h1.drawn hN hm, d1.mono (by omega)⟩
      have a := and_ff' (g := tstF (bin2 (callR (gdR 2 m__law_roll) (consA (varD 0) (consA (conD (.int 3)) nilA))) (conD (.int 0)) (asB eqX false))) t1
      have a' : andT (tstF (bin2 (varD 1) (conD (.str "")) (asB eqX true))) (tstF (bin2 (callR (gdR 2 m__law_roll) (consA (varD 0) (consA (conD (.int 3)) nilA))) (conD (.int 0)) (asB eqX false))) ((EE x1 rd' s none).set 4 none) = some (false, EE x1 rd' s none) := a
      unfold evenB
      rw [c1', Option.bind_some]
      dsimp only
      rw [a', Option.bind_some]
      rfl
    · rw [decide_eq_false z] at t1
      obtain ⟨r, x2, e2, d2⟩ := roll_is d1 (by omega) (t := 3) (by decide) (by decide) [some (.dat (.str rd')), some (.dat (.str s)), some (.dat (.int 3)), none]
      have a := and_tt' t1 e2
      have a' : andT (tstF (bin2 (varD 1) (conD (.str "")) (asB eqX true))) (tstF (bin2 (callR (gdR 2 m__law_roll) (consA (varD 0) (consA (conD (.int 3)) nilA))) (conD (.int 0)) (asB eqX false))) ((EE x1 rd' s none).set 4 none) = some (decide (r = 0), EE x2 rd' s none) := a
      by_cases w : r = 0
      · obtain ⟨N2, es2, x3, e3, h3, hN2, hm2, d3⟩ := ev_unit d2 (by omega) hr hs (k := 1) (by omega)
        obtain ⟨N3, es3, e4, h4⟩ := ev_both h1 h3 (fun e he => by have := hm e he; omega) (fun e he => by have := hm2 e he; omega) hN hN2
        have mi : callF (consA (varD 3) (consA (conD (.int 1)) nilA)) minF (EE x2 rd' s (some (.dat (mD N es)))) = some (.dat (.int 1), EE x2 rd' s (some (.dat (mD N es)))) := rfl
        have c3 := callR2z_at (F := m__law_unit_machine) (n := 4) (j := 0) (ρ := EE x2 rd' s (some (.dat (mD N es)))) (ds := [.str rd', .str s, .int 1]) (rest := consA (fzD [0] (varD 1)) (consA (fzD [0] (varD 2)) (consA (callF (consA (varD 3) (consA (conD (.int 1)) nilA)) minF) nilA))) rfl (cons_at (f := fzD [0] (varD 1)) rfl (cons_at (f := fzD [0] (varD 2)) rfl (cons_at (g := nilA) mi rfl))) rfl rfl e3
        refine ⟨N3, es3, x3, EE x3 rd' s none, ?_, rfl, h4, d3.mono (by omega)⟩
        have c3' : callR2z (gd2R 4 m__law_unit_machine) (consA (varD 0) (consA (fzD [0] (varD 1)) (consA (fzD [0] (varD 2)) (consA (callF (consA (varD 3) (consA (conD (.int 1)) nilA)) minF) nilA)))) ((EE x2 rd' s none).set 4 (some (.dat (.tup [.int (N : Int), (OV.mT (kvM es)).d])))) = some (.dat (mD N2 es2), EE x3 rd' s (some (.dat (mD N es)))) := c3
        have e4' : m__law_both [.tup [.int (N : Int), (OV.mT (kvM es)).d], mD N2 es2] = some (.int (N3 : Int), .mT (kvM es3)) := e4
        unfold evenB
        rw [c1', Option.bind_some]
        dsimp only
        rw [a', Option.bind_some]
        dsimp only
        rw [if_pos (decide_eq_true w), c3', Option.bind_some]
        dsimp only
        rw [e4', Option.bind_some]
        rfl
      · refine ⟨N, es, x2, EE x2 rd' s none, ?_, rfl, h1.drawn hN hm, d2.mono (by omega)⟩
        unfold evenB
        rw [c1', Option.bind_some]
        dsimp only
        rw [a', Option.bind_some]
        dsimp only
        rw [if_neg (by simpa using w)]
  obtain ⟨N, es, x', ρ', m1, m2, m3, m4⟩ := main
  refine ⟨N, es, x', ?_, m3, m4⟩
  rw [unf, m1]
  simp only [Option.bind_some, m2]
end KA

/-! ML: any machines. -/
namespace KA
open DL L2 PySem PySem.Spec PyProof.Rows LawT

abbrev EA (x : OV) (rd' s : Str) (s4 s5 s6 s7 s8 s9 s10 : Option SV) : EnvD := [some (.own x), some (.dat (.str rd')), some (.dat (.str s)), some (.dat (.int 3)), s4, s5, s6, s7, s8, s9, s10]
theorem roll_at {n : Nat} {x : OV} (h : Dice n x) (hn : n < 2 ^ 100) {N : Nat} (t0 : 0 < N) (t1 : N ≤ 1000) {g : FE} {ρ : List (Option SV)} (hg : g (some (.own x) :: ρ) = some (.dat (.int (N : Int)), some (.own x) :: ρ)) : ∃ (r : Nat) (x' : OV), callR (gdR 2 m__law_roll) (consA (varD 0) (consA g nilA)) (some (.own x) :: ρ) = some (.dat (.int (r : Int)), some (.own x') :: ρ) ∧ r < N ∧ Dice (n + 1) x' := by
  have far : (1000 : Int) ≤ 10 ^ 60 := by decide
  obtain ⟨r, x', e, r0, r1, d⟩ := c_roll h (t := (N : Int)) (by omega) (by omega) hn (R := []) hg
  obtain ⟨m, rfl⟩ := Int.eq_ofNat_of_zero_le r0
  exact ⟨m, x', e, by omega, d⟩
def bodyR : FS := itemF 5 (tupF (consA (callR (gdR 2 m__law_roll) (consA (varD 0) (consA (fzD [0] (varD 4)) nilA))) (consA (meF "str" (conD (.str "")) (consA (callF (consA (callR (gdR 3 m__law_row_drawn) (consA (varD 0) (consA (fzD [0] (varD 3)) (consA (fzD [0] (varD 2)) nilA)))) nilA) sortF) nilA) joinM) nilA))) (tupF (consA (fzD [0] (varD 6)) (consA (fzD [0] (varD 7)) nilA))) setO
/-- steps[spot] = (a place, a mail) -/
theorem rand_step {n : Nat} {x : OV} (hx : Dice n x) (hn : n < 2 ^ 79) (rd' : Str) {s : Str} (hs : Snd s) {N : Nat} (N0 : 0 < N) (N1 : N ≤ 25) {es : List E4} (s8 s9 s10 : Option SV) (p : Nat) (r : Str) (le : es.length ≤ 100000) :
    ∃ e x', bodyR (EA x rd' s (some (.dat (.int (N : Int)))) (some (.own (.mT (kvM es)))) (some (.dat (.int (p : Int)))) (some (.dat (.str r))) s8 s9 s10) = some (.next, EA x' rd' s (some (.dat (.int (N : Int)))) (some (.own (.mT (kvM (putE es e))))) (some (.dat (.int (p : Int)))) (some (.dat (.str r))) s8 s9 s10) ∧ spot e = (p, r) ∧ e.g < N ∧ Mail e.m ∧ e.m.length ≤ 12 ∧ Dice (n + 41) x' := by
  have q79 : (2 : Nat) ^ 79 + 1000 < 2 ^ 80 := by decide
  have q80 : (2 : Nat) ^ 80 < 2 ^ 100 := by decide
  obtain ⟨g, x1, e1, h1, d1⟩ := roll_at hx (by omega) N0 (by omega) (g := fzD [0] (varD 4)) (ρ := [some (.dat (.str rd')), some (.dat (.str s)), some (.dat (.int 3)), some (.dat (.int (N : Int))), some (.own (.mT (kvM es))), some (.dat (.int (p : Int))), some (.dat (.str r)), s8, s9, s10]) rfl
  obtain ⟨m, x2, e2, d2, lm, hm⟩ := c_mail d1 (by omega) (k := 3) (by omega) hs (fm := fzD [0] (varD 3)) (fs := fzD [0] (varD 2)) (ρ := [some (.dat (.str rd')), some (.dat (.str s)), some (.dat (.int 3)), some (.dat (.int (N : Int))), some (.own (.mT (kvM es))), some (.dat (.int (p : Int))), some (.dat (.str r)), s8, s9, s10]) rfl rfl
  refine ⟨⟨p, r, g, mailOf m⟩, x2, ?_, rfl, h1, mail_ok hm.let' (by omega), by rw [len_mail]; omega, d2.mono (by omega)⟩
  have tp := tup2' e1 e2
  unfold bodyR
  refine item_at (y := .mT (kvM es)) tp ⟨_, rfl⟩ (tup2 (fz_dat rfl) (fz_dat rfl)) rfl rfl ?_
  exact set_step le ⟨p, r, g, mailOf m⟩
theorem ev_random {n : Nat} {x : OV} (hx : Dice n x) (hn : n < 2 ^ 59) {rd' s : Str} (hr : Reads' rd') (hs : Snd s) : ∃ (N : Nat) (es : List E4) (x' : OV) (ρ' : EnvD), (seqF (parF [0] 4 5 (bin2 (conD (.int 1)) (callR (gdR 2 m__law_roll) (consA (varD 0) (consA (conD (.int 4)) nilA))) addD) (dnewF true)) (seqF (forF [0] [6] (rng1I (consA (varD 4) nilA)) (nameG 6) (forF [0] [7] (anyI (fzD [0] (varD 1))) (nameG 7) bodyR)) (retF (tupF (consA (fzD [0] (varD 4)) (consA (fzD [0] (varD 5)) nilA)))))) (EA x rd' s none none none none none none none) = some (.ret (.dat (mD N es)), ρ') ∧ ρ'[0]? = some (some (.own x')) ∧ Drawn N (sg rd') es ∧ Dice (n + 4000) x' := by
  have q59 : (2 : Nat) ^ 59 + 10000 < 2 ^ 79 := by decide
  have q79 : (2 : Nat) ^ 79 < 2 ^ 100 := by decide
  have f8 := hr.few
  obtain ⟨g, x1, e1, h1, d1⟩ := roll_at hx (by omega) (N := 4) (by omega) (by omega) (g := conD (.int 4)) (ρ := [some (.dat (.str rd')), some (.dat (.str s)), some (.dat (.int 3)), none, none, none, none, none, none, none]) rfl
  have t1 : parF [0] 4 5 (bin2 (conD (.int 1)) (callR (gdR 2 m__law_roll) (consA (varD 0) (consA (conD (.int 4)) nilA))) addD) (dnewF true) (EA x rd' s none none none none none none none) = some (.next, EA x1 rd' s (some (.dat (.int ((g + 1 : Nat) : Int)))) (some (.own (.mT (kvM [])))) none none none none none) := by
    have b := bin_at (F := addD) (f := conD (.int 1)) (ρ := EA x rd' s none none none none none none none) (z := .dat (.int (1 + (g : Int)))) rfl e1 rfl rfl rfl
    rw [show ((g + 1 : Nat) : Int) = 1 + (g : Int) by omega]
    generalize callR (gdR 2 m__law_roll) (consA (varD 0) (consA (conD (.int 4)) nilA)) = gg at b ⊢
    simp only [parF, b, Option.bind_some]
    rfl
  obtain ⟨ρF, lp, x2, es, s6, s7, rfl, g0, g1, g2, g3, g4⟩ := loop_pre (R := [0]) (vs := [6]) (g := nameG 6) (body := forF [0] [7] (anyI (fzD [0] (varD 1))) (nameG 7) bodyR) (fun pre ρ => ∃ x2 es s6 s7, ρ = EA x2 rd' s (some (.dat (.int ((g + 1 : Nat) : Int)))) (some (.own (.mT (kvM es)))) s6 s7 none none none ∧ Dice (n + 1 + 400 * pre.length) x2 ∧ (es.map spot).Nodup ∧ (∀ q : Nat × Str, q ∈ es.map spot ↔ q.1 < pre.length ∧ q.2 ∈ sg rd') ∧ (∀ e ∈ es, e.g < g + 1 ∧ Mail e.m ∧ e.m.length ≤ 12) ∧ es.length ≤ 8 * pre.length) (by simp) (rngL 0 (g + 1)) (fun pre d post hall ρ ⟨x2, es, s6, s7, hρ, a0, a1, a2, a3, a4⟩ => by
    obtain ⟨rfl, hp⟩ := rng_pre hall
    subst hρ
    obtain ⟨ρG, lq, x3, es', s7', rfl, b0, b1, b2, b3, b4⟩ := loop_pre (R := [0]) (vs := [7]) (g := nameG 7) (body := bodyR) (fun pre2 ρ => ∃ x3 es' s7, ρ = EA x3 rd' s (some (.dat (.int ((g + 1 : Nat) : Int)))) (some (.own (.mT (kvM es')))) (some (.dat (.int (pre.length : Int)))) s7 none none none ∧ Dice (n + 1 + 400 * pre.length + 41 * pre2.length) x3 ∧ (es'.map spot).Nodup ∧ (∀ q : Nat × Str, q ∈ es'.map spot ↔ q ∈ es.map spot ∨ (q.1 = pre.length ∧ D.str q.2 ∈ pre2)) ∧ (∀ e ∈ es', e.g < g + 1 ∧ Mail e.m ∧ e.m.length ≤ 12) ∧ es'.length ≤ es.length + pre2.length) (by simp) ((sg rd').map D.str) (fun pre2 d2 post2 hall2 ρ ⟨x3, es', s7, hρ, c0, c1, c2, c3, c4⟩ => by
      have lall := congrArg List.length hall2
      rw [List.length_map, len_sg, List.length_append, List.length_cons] at lall
      obtain ⟨r, rfl, hrm⟩ := pre_str hall2
      subst hρ
      obtain ⟨e, x4, f1, f2, f3, f4, f5, f6⟩ := rand_step c0 (by omega) rd' hs (N := g + 1) (by omega) (by omega) (es := es') none none none pre.length r (by omega)
      refine ⟨_, _, rfl, f1, x4, putE es' e, _, rfl, f6.mono (by rw [List.length_append, List.length_singleton]; omega), nd_put c1, fun q => ?_, fun e' he' => ?_, by have := len_put es' e; rw [List.length_append, List.length_singleton]; omega⟩
      · rw [spot_put, c2, f2, List.mem_append, List.mem_singleton]
        constructor
        · rintro ((z | ⟨z1, z2⟩) | rfl)
          · exact .inl z
          · exact .inr ⟨z1, .inl z2⟩
          · exact .inr ⟨rfl, .inr rfl⟩
        · rintro (z | ⟨z1, z2 | z2⟩)
          · exact .inl (.inl z)
          · exact .inl (.inr ⟨z1, z2⟩)
          · exact .inr (Prod.ext z1 (D.str.inj z2))
      · rcases mem_put he' with z | rfl
        · exact c3 e' z
        · exact ⟨f3, f4, f5⟩) ((sg rd').map D.str) [] (EA x2 rd' s (some (.dat (.int ((g + 1 : Nat) : Int)))) (some (.own (.mT (kvM es)))) (some (.dat (.int (pre.length : Int)))) s7 none none none) rfl ⟨x2, es, s7, rfl, a0.mono (by omega), a1, fun q => by simp, a3, by simp⟩
    rw [List.length_map, len_sg] at b0 b4
    refine ⟨_, _, rfl, for_at (is := (sg rd').map D.str) rfl lq, x3, es', _, s7', rfl, b0.mono (by rw [List.length_append, List.length_singleton]; omega), b1, fun q => ?_, b3, by rw [List.length_append, List.length_singleton]; omega⟩
    rw [b2, a2, List.length_append, List.length_singleton]
    have ms : D.str q.2 ∈ (sg rd').map D.str ↔ q.2 ∈ sg rd' := by simp
    rw [ms]
    constructor
    · rintro (⟨y1, y2⟩ | ⟨y1, y2⟩)
      · exact ⟨by omega, y2⟩
      · exact ⟨by omega, y2⟩
    · rintro ⟨y1, y2⟩
      by_cases w : q.1 = pre.length
      · exact .inr ⟨w, y2⟩
      · exact .inl ⟨by omega, y2⟩) (rngL 0 (g + 1)) [] (EA x1 rd' s (some (.dat (.int ((g + 1 : Nat) : Int)))) (some (.own (.mT (kvM [])))) none none none none none) rfl ⟨x1, [], none, none, rfl, d1.mono (by omega), by simp, fun q => by simp, (fun e h => nomatch h), by simp⟩
  rw [rng_len] at g0 g2 g4
  refine ⟨g + 1, es, x2, _, seq_at t1 (seq_at (for_at (is := rngL 0 (g + 1)) (rng_at (w := g + 1) rfl (by omega)) lp) (ret_dat (tup2' (ρ2 := EA x2 rd' s (some (.dat (.int ((g + 1 : Nat) : Int)))) (some (.dat (.dT (kvM es)))) s6 s7 none none none) rfl rfl))), rfl, ⟨⟨by omega, by omega, hr.let', hr.nd, by rw [len_sg]; exact f8, g1, fun p r => g2 (p, r), fun e he => ⟨(g3 e he).1, (g3 e he).2.1⟩⟩, by omega, fun e he => (g3 e he).2.2⟩, g0.mono (by omega)⟩
end KA

/-! MM: any machine. -/
namespace KA
open DL L2 PySem PySem.Spec PyProof.Rows LawT

theorem seq_ret {f g : FS} {ρ ρ1 : EnvD} {r : SV} (h : f ρ = some (.ret r, ρ1)) : seqF f g ρ = some (.ret r, ρ1) := by
  simp only [seqF, h, Option.bind_some]
theorem Drawn.put {N : Nat} {rs : List Str} {es : List E4} (h : Drawn N rs es) {e : E4} (he : spot e ∈ es.map spot) (g : e.g < N) (m : Mail e.m) (l : e.m.length ≤ 12) : Drawn N rs (putE es e) := by
  refine ⟨⟨h.n0, h.n1, h.rL, h.rN, h.r8, nd_put h.nd, fun p r => ?_, fun x hx => ?_⟩, h.n25, fun x hx => ?_⟩
  · rw [spot_put]
    constructor
    · rintro (z | z)
      · exact (h.mem p r).mp z
      · exact (h.mem p r).mp (z ▸ he)
    · exact fun z => .inl ((h.mem p r).mpr z)
  · rcases mem_put hx with z | rfl
    · exact h.ok x z
    · exact ⟨g, m⟩
  · rcases mem_put hx with z | rfl
    · exact h.m12 x z
    · exact l
theorem putE_ne {es : List E4} (e : E4) : putE es e ≠ [] := by
  intro z
  have := (spot_put es e (spot e)).mpr (.inr rfl)
  rw [z] at this
  exact nomatch this
def keyF : FE := callR (gdR 2 m__law_pick) (consA (varD 0) (consA (fzD [0] (callF (consA (varD 5) nilA) sortF)) nilA))
def tossF : FE := callR (gdR 2 m__law_pick) (consA (varD 0) (consA (fzD [0] (lstF (consA (bin2 (bin2 (varD 5) (varD 9) ixD) (conD (.int 1)) ixD) (consA (fzD [0] (varD 10)) nilA)))) nilA))
def bodyBend : FS := seqF (setF [0] 9 keyF) (seqF (setF [0] 10 (meF "str" (conD (.str "")) (consA (callF (consA (callR (gdR 3 m__law_row_drawn) (consA (varD 0) (consA (fzD [0] (varD 3)) (consA (fzD [0] (varD 2)) nilA)))) nilA) sortF) nilA) joinM)) (itemF 5 (tupF (consA (callR (gdR 2 m__law_roll) (consA (varD 0) (consA (fzD [0] (varD 4)) nilA))) (consA tossF nilA))) (fzD [0] (varD 9)) setO))
theorem bend_step {n : Nat} {x : OV} (hx : Dice n x) (hn : n < 2 ^ 79) (rd' : Str) {s : Str} (hs : Snd s) {N : Nat} {rs : List Str} {es : List E4} (h : Drawn N rs es) (ne : es ≠ []) (s6 s7 s8 s9 s10 : Option SV) :
    ∃ es' x' t9 t10, bodyBend (EA x rd' s (some (.dat (.int (N : Int)))) (some (.own (.mT (kvM es)))) s6 s7 s8 s9 s10) = some (.next, EA x' rd' s (some (.dat (.int (N : Int)))) (some (.own (.mT (kvM es')))) s6 s7 s8 t9 t10) ∧ Drawn N rs es' ∧ es' ≠ [] ∧ Dice (n + 50) x' := by
  have q79 : (2 : Nat) ^ 79 + 1000 < 2 ^ 80 := by decide
  have q80 : (2 : Nat) ^ 80 < 2 ^ 100 := by decide
  have few := h.few
  have n1 := h.n1
  have n0 := h.n0
  obtain ⟨ds, sr, pm⟩ := sort_spots (es := es) (by omega)
  have dl : ds.length = es.length := by rw [pm.length_eq, List.length_map]
  obtain ⟨d, x1, dm, e1, d1⟩ := ev_pick_list hx (by omega) ds (fun z => ne (List.length_eq_zero_iff.mp (by rw [← dl, z]; rfl))) (by omega)
  obtain ⟨e, he, rfl⟩ := List.mem_map.mp (pm.mem_iff.mp dm)
  obtain ⟨m, x2, e2, d2, lm, hm⟩ := c_mail d1 (by omega) (k := 3) (by omega) hs (fm := fzD [0] (varD 3)) (fs := fzD [0] (varD 2)) (ρ := [some (.dat (.str rd')), some (.dat (.str s)), some (.dat (.int 3)), some (.dat (.int (N : Int))), some (.own (.mT (kvM es))), s6, s7, s8, some (.dat (spotD e)), s10]) rfl rfl
  obtain ⟨g, x3, e3, h3, d3⟩ := roll_at d2 (by omega) (N := N) (by omega) (by have := h.n25; omega) (g := fzD [0] (varD 4)) (ρ := [some (.dat (.str rd')), some (.dat (.str s)), some (.dat (.int 3)), some (.dat (.int (N : Int))), some (.own (.mT (kvM es))), s6, s7, s8, some (.dat (spotD e)), some (.dat (.str (mailOf m)))]) rfl
  obtain ⟨q, x4, qm, e4, d4⟩ := ev_pick_list d3 (by omega) [.str e.m, .str (mailOf m)] (by simp) (by simp)
  have he' := (h.ok e he).2
  have hm' : Mail (mailOf m) := mail_ok hm.let' (by omega)
  have hq : ∃ t, q = .str t ∧ Mail t ∧ t.length ≤ 12 := by
    rcases List.mem_cons.mp qm with rfl | z
    · exact ⟨e.m, rfl, he', h.m12 e he⟩
    · rw [List.mem_singleton.mp z]
      exact ⟨_, rfl, hm', by rw [len_mail]; omega⟩
  obtain ⟨t, rfl, ht, lt⟩ := hq
  refine ⟨putE es ⟨e.p, e.r, g, t⟩, x4, some (.dat (spotD e)), some (.dat (.str (mailOf m))), ?_, h.put (List.mem_map.mpr ⟨e, he, rfl⟩) h3 ht lt, putE_ne _, d4.mono (by omega)⟩
  have k1 : keyF (EA x rd' s (some (.dat (.int (N : Int)))) (some (.own (.mT (kvM es)))) s6 s7 s8 s9 s10) = some (.dat (spotD e), EA x1 rd' s (some (.dat (.int (N : Int)))) (some (.own (.mT (kvM es)))) s6 s7 s8 s9 s10) :=
    callR_at (F := m__law_pick) (n := 2) (ds := [.lst ds]) (cons_at (f := fzD [0] (callF (consA (varD 5) nilA) sortF)) (fz_own (y := .ml ds) (call1 (z := .own (.ml ds)) (d := .dT (kvM es)) (r := .slot 5) rfl rfl sr)) rfl) rfl e1
  have k4 : tossF (EA x3 rd' s (some (.dat (.int (N : Int)))) (some (.own (.mT (kvM es)))) s6 s7 s8 (some (.dat (spotD e))) (some (.dat (.str (mailOf m))))) = some (.dat (.str t), EA x4 rd' s (some (.dat (.int (N : Int)))) (some (.own (.mT (kvM es)))) s6 s7 s8 (some (.dat (spotD e))) (some (.dat (.str (mailOf m))))) :=
    callR_at (F := m__law_pick) (n := 2) (ds := [.lst [.str e.m, .str (mailOf m)]]) (cons_at (f := fzD [0] (lstF (consA (bin2 (bin2 (varD 5) (varD 9) ixD) (conD (.int 1)) ixD) (consA (fzD [0] (varD 10)) nilA)))) (fz_own (y := .ml [.str e.m, .str (mailOf m)]) (by
      have b := bin_at (F := ixD) (g := conD (.int 1)) (ρ := EA x3 rd' s (some (.dat (.int (N : Int)))) (some (.own (.mT (kvM es)))) s6 s7 s8 (some (.dat (spotD e))) (some (.dat (.str (mailOf m))))) (z := .dat (.str e.m)) (bin_at (f := varD 5) (g := varD 9) (F := ixD) (z := .dat (goal e)) (d := .dT (kvM es)) rfl rfl rfl rfl (ix_spot h.nd he)) rfl rfl rfl rfl
      have c := cons_at b (cons_at (f := fzD [0] (varD 10)) (g := nilA) rfl rfl)
      simp only [lstF, c, Option.bind_some]
      rfl)) rfl) rfl e4
  unfold bodyBend
  refine seq_at (set_dat k1 rfl) (seq_at (ρ1 := EA x2 rd' s (some (.dat (.int (N : Int)))) (some (.own (.mT (kvM es)))) s6 s7 s8 (some (.dat (spotD e))) (some (.dat (.str (mailOf m))))) (set_dat e2 rfl) ?_)
  have tp := tup2' e3 k4
  refine item_at (y := .mT (kvM es)) tp ⟨_, rfl⟩ (fz_dat (d := spotD e) rfl) rfl rfl ?_
  exact set_step (by omega) ⟨e.p, e.r, g, t⟩
theorem ne_steps (es : List E4) : neE (.dT (kvM es)) (.dT []) = some (.dat (.bl (!decide (es = [])))) := by
  show some (SV.dat (.bl (!decide (kvM es = [])))) = _
  cases es <;> rfl
theorem ev_any {n : Nat} {x : OV} (hx : Dice n x) (hn : n < 2 ^ 58) {rd' s : Str} (hr : Reads' rd') (hs : Snd s) : ∃ (N : Nat) (es : List E4) (x' : OV), m__law_any_machine x [.str rd', .str s, .int 3] = some (.dat (mD N es), x') ∧ Drawn N (sg rd') es ∧ Dice (n + 5000) x' := by
  have q58 : (2 : Nat) ^ 58 + 10000 < 2 ^ 59 := by decide
  have q59 : (2 : Nat) ^ 59 < 2 ^ 79 := by decide
  have q79 : (2 : Nat) ^ 79 < 2 ^ 100 := by decide
  suffices main : ∃ (N : Nat) (es : List E4) (x' : OV) (ρ' : EnvD), b__law_any_machine (EA x rd' s none none none none none none none) = some (.ret (.dat (mD N es)), ρ') ∧ ρ'[0]? = some (some (.own x')) ∧ Drawn N (sg rd') es ∧ Dice (n + 5000) x' by
    obtain ⟨N, es, x', ρ', m1, m2, m3, m4⟩ := main
    refine ⟨N, es, x', ?_, m3, m4⟩
    have e : m__law_any_machine x [.str rd', .str s, .int 3] = (b__law_any_machine (EA x rd' s none none none none none none none)).bind finR := rfl
    rw [e, m1, Option.bind_some]
    simp only [finR, m2]
  obtain ⟨r, x1, e1, d1⟩ := roll_is hx (by omega) (t := 3) (by decide) (by decide) [some (.dat (.str rd')), some (.dat (.str s)), some (.dat (.int 3)), none, none, none, none, none, none, none]
  unfold b__law_any_machine
  by_cases z : r = 0
  · rw [decide_eq_true z] at e1
    obtain ⟨N, es, x', ρ', m1, m2, m3, m4⟩ := ev_random d1 (by omega) hr hs
    refine ⟨N, es, x', ρ', ?_, m2, m3, m4.mono (by omega)⟩
    have i : ifS (tstF (bin2 (callR (gdR 2 m__law_roll) (consA (varD 0) (consA (conD (.int 3)) nilA))) (conD (.int 0)) (asB eqX false))) _ nextF (EA x rd' s none none none none none none none) = some (.ret (.dat (mD N es)), ρ') := if_tt e1 m1
    exact seq_ret i
  · rw [decide_eq_false z] at e1
    obtain ⟨N, es, x2, e2, h2, d2⟩ := ev_even d1 (by omega) hr hs
    have a := asgR2_at (R := [0]) (i := 4) (k := 5) (F := m__law_even_machine) (n := 4) (j := 0) (ρ := EA x1 rd' s none none none none none none none) (ds := [.str rd', .str s, .int 3]) (rest := consA (fzD [0] (varD 1)) (consA (fzD [0] (varD 2)) (consA (fzD [0] (varD 3)) nilA))) (ρ3 := EA x2 rd' s (some (.dat (.int (N : Int)))) (some (.own (.mT (kvM es)))) none none none none none) rfl rfl rfl rfl e2 rfl rfl
    have nt : tstF (bin2 (varD 5) (dnewF true) neE) (EA x2 rd' s (some (.dat (.int (N : Int)))) (some (.own (.mT (kvM es)))) none none none none none) = some (!decide (es = []), EA x2 rd' s (some (.dat (.int (N : Int)))) (some (.own (.mT (kvM es)))) none none none none none) :=
      tst_at (bin_at (f := varD 5) (g := dnewF true) (F := neE) (z := .dat (.bl (!decide (es = [])))) (d := .dT (kvM es)) (e := .dT []) rfl rfl rfl rfl (ne_steps es))
    have lp : ∃ (w : Nat) (x3 : OV), ifF (tstF (bin2 (varD 5) (dnewF true) neE)) (callR (gdR 2 m__law_roll) (consA (varD 0) (consA (conD (.int 3)) nilA))) (conD (.int 0)) (EA x2 rd' s (some (.dat (.int (N : Int)))) (some (.own (.mT (kvM es)))) none none none none none) = some (.dat (.int (w : Int)), EA x3 rd' s (some (.dat (.int (N : Int)))) (some (.own (.mT (kvM es)))) none none none none none) ∧ w < 3 ∧ (es = [] → w = 0) ∧ Dice (n + 702) x3 := by
      by_cases y : es = []
      · refine ⟨0, x2, ?_, by omega, fun _ => rfl, d2.mono (by omega)⟩
        rw [decide_eq_true y] at nt
        generalize callR (gdR 2 m__law_roll) (consA (varD 0) (consA (conD (.int 3)) nilA)) = gg
        unfold ifF
        rw [nt, Option.bind_some]
        rfl
      · obtain ⟨w, x3, e3, h3, d3⟩ := roll_at d2 (by omega) (N := 3) (by omega) (by omega) (g := conD (.int 3)) (ρ := [some (.dat (.str rd')), some (.dat (.str s)), some (.dat (.int 3)), some (.dat (.int (N : Int))), some (.own (.mT (kvM es))), none, none, none, none, none]) rfl
        refine ⟨w, x3, ?_, h3, fun q => absurd q y, d3.mono (by omega)⟩
        rw [decide_eq_false y] at nt
        generalize callR (gdR 2 m__law_roll) (consA (varD 0) (consA (conD (.int 3)) nilA)) = gg at e3 ⊢
        unfold ifF
        rw [nt, Option.bind_some, if_pos Bool.not_false]
        exact e3
    obtain ⟨w, x3, e3, hw, hz, d3⟩ := lp
    obtain ⟨ρF, lq, x4, es', s8, s9, s10, rfl, d4, h4⟩ := loop_cnt (R := [0]) (vs := [8]) (g := nameG 8) (body := bodyBend) (fun i ρ => ∃ x4 es' s8 s9 s10, ρ = EA x4 rd' s (some (.dat (.int (N : Int)))) (some (.own (.mT (kvM es')))) none none s8 s9 s10 ∧ Dice (n + 702 + 50 * i) x4 ∧ Drawn N (sg rd') es' ∧ (es' = [] → es = [])) (by simp) (rngL 0 w) 0 (EA x3 rd' s (some (.dat (.int (N : Int)))) (some (.own (.mT (kvM es)))) none none none none none) (fun d hd j hj ρ ⟨x4, es', s8, s9, s10, hρ, a0, a1, a2⟩ => by
      subst hρ
      rw [rng_len] at hj
      have ne : es' ≠ [] := fun q => by have := hz (a2 q); omega
      obtain ⟨es2, x5, t9, t10, b1, b2, b3, b4⟩ := bend_step a0 (by omega) rd' hs a1 ne none none (some (.dat d)) s9 s10
      exact ⟨_, _, rfl, b1, x5, es2, _, t9, t10, rfl, b4.mono (by omega), b2, fun q => absurd q b3⟩) ⟨x3, es, none, none, none, rfl, d3.mono (by omega), h2, fun q => q⟩
    rw [rng_len] at d4
    refine ⟨N, es', x4, _, seq_at (if_ff e1 rfl) (seq_at a (seq_at (for_at (is := rngL 0 w) (rng_at (w := w) e3 (by omega)) lq) (ret_dat (tup2' (ρ2 := EA x4 rd' s (some (.dat (.int (N : Int)))) (some (.dat (.dT (kvM es')))) none none s8 s9 s10) rfl rfl)))), rfl, h4.1, d4.mono (by omega)⟩
end KA

/-! MN: machines without letters. -/
namespace KA
open DL L2 PySem PySem.Spec PyProof.Rows LawT

theorem perm_map {α β : Type} {f : α → β} {a b : List β} (h : a.Perm b) : ∀ es : List α, b = es.map f → ∃ os : List α, a = os.map f ∧ os.Perm es := by
  induction h with
  | nil => exact fun es e => ⟨[], rfl, by rw [show es = [] from List.map_eq_nil_iff.mp e.symm]⟩
  | cons x _ ih => 
    intro es e
    cases es with
    | nil => exact nomatch e
    | cons y es =>
      rw [List.map_cons] at e
      injection e with e1 e2
      obtain ⟨os, h1, h2⟩ := ih es e2
      exact ⟨y :: os, by rw [List.map_cons, h1, e1], h2.cons y⟩
  | swap x y l =>
    intro es e
    cases es with
    | nil => exact nomatch e
    | cons u es => cases es with
      | nil => exact nomatch e
      | cons v es =>
        rw [List.map_cons, List.map_cons] at e
        injection e with e1 e2
        injection e2 with e2 e3
        exact ⟨v :: u :: es, by rw [List.map_cons, List.map_cons, e1, e2, e3], List.Perm.swap ..⟩
  | trans _ _ ih1 ih2 =>
    intro es e
    obtain ⟨os, h1, h2⟩ := ih2 es e
    obtain ⟨os', h3, h4⟩ := ih1 os h1
    exact ⟨os', h3, h4.trans h2⟩
theorem sorted_spots {es : List E4} (h : es.length ≤ 100000) : ∃ os : List E4, sortF [.dT (kvM es)] = some (.own (.ml (os.map spotD))) ∧ os.Perm es := by
  obtain ⟨ds, e, p⟩ := sort_spots h
  obtain ⟨os, rfl, q⟩ := perm_map p es rfl
  exact ⟨os, e, q⟩
/-- a mail without the letters of al -/
def keepT (al m : Str) : Str := cat ((sg m).filter fun z => !decide (z ∈ sg al))
def cutE (al : Str) (e : E4) : E4 := ⟨e.p, e.r, e.g, keepT al e.m⟩
theorem sg_keep (al m : Str) : sg (keepT al m) = (sg m).filter fun z => !decide (z ∈ sg al) := join_sg _ fun s hs => sg_one (List.mem_filter.mp hs).1
theorem len_keep (al m : Str) : (keepT al m).length ≤ m.length := by
  rw [← len_sg, sg_keep, ← len_sg m]
  exact List.length_filter_le _ _
theorem keep_mail {m : Str} (h : Mail m) (al : Str) : Mail (keepT al m) := ⟨fun s hs => by
  rw [sg_keep] at hs
  exact h.let' s (List.mem_filter.mp hs).1, by rw [sg_keep]; exact h.asc.filter _, Nat.le_trans (len_keep al m) h.few⟩
def keepF (R : List Nat) (a b c : Nat) : FE := meF "str" (conD (.str "")) (consA (lcF [a] (anyI (fzD R (varD b))) (nameG a) (tstF (bin2 (varD a) (varD c) (asB inD true))) (fzD R (varD a))) nilA) joinM
theorem keep_at {R : List Nat} {a b c : Nat} {ρ : EnvD} {m al : Str} (ha : ρ[a]? = some none) (hb : ρ[b]? = some (some (.dat (.str m)))) (hc : ρ[c]? = some (some (.dat (.str al)))) (l1 : m.length ≤ 1000000) (l2 : al.length ≤ 1000000) :
    keepF R a b c ρ = some (.dat (.str (keepT al m)), ρ) := by
  have la : a < ρ.length := by
    rcases Nat.lt_or_ge a ρ.length with z | z
    · exact z
    · rw [List.getElem?_eq_none z] at ha
      exact nomatch ha
  have ga : ρ[a] = none := by rw [List.getElem?_eq_getElem la] at ha; exact Option.some.inj ha
  have ac : a ≠ c := fun z => by rw [z, hc] at ha; exact nomatch ha
  have lc := lc_pure (vs := [a]) (fi := anyI (fzD R (varD b))) (g := nameG a) (t := tstF (bin2 (varD a) (varD c) (asB inD true))) (f := fzD R (varD a)) (ρ := ρ) D.str (fun z => !decide (z ∈ sg al)) D.str (sg m) (any_at (d := .str m) (fz_dat hb) (by
      show itemsD (.str m) = _
      rfl)) (by rw [noneAt_iff]; intro i hi; rw [List.mem_singleton.mp hi]; exact ha) (by rw [len_sg, sizeLine_eq]; omega) (fun z hz => by
    refine ⟨ρ.set a (some (.dat (.str z))), if_pos la, ?_, ?_, fun _ => fz_dat (by rw [List.getElem?_set_self la])⟩
    · exact tst_at (bin_at (z := .dat (.bl (!decide (z ∈ sg al)))) (var_dat (by rw [List.getElem?_set_self la])) (var_dat (d := .str al) (by rw [List.getElem?_set_ne ac]; exact hc)) rfl rfl (by
        show (inD (.str z) (.str al)).map _ = _
        rw [← in_sg al (sg_one hz)]
        rfl))
    · show (ρ.set a _).set a none = ρ
      rw [List.set_set, ← ga, List.set_getElem_self])
  refine me_join (ss := (sg m).filter fun z => !decide (z ∈ sg al)) lc ?_
  rw [sum_one _ fun k hk => sg_one (List.mem_filter.mp hk).1]
  have := List.length_filter_le (fun z => !decide (z ∈ sg al)) (sg m)
  rw [len_sg] at this
  omega
abbrev EW (n : Nat) (es : List E4) (al : Str) (acc : List E4) (s3 s4 s5 : Option SV) : EnvD := [some (.dat (mD n es)), some (.dat (.str al)), some (.own (.mT (kvM acc))), s3, s4, s5, none]
def bodyW : FS := seqF (asgF [] [4, 5] (bin2 (bin2 (varD 0) (conD (.int 1)) ixD) (varD 3) ixD) (tupG 2 (consG (nameG 4) (consG (nameG 5) nilG)))) (itemF 2 (tupF (consA (fzD [] (varD 4)) (consA (keepF [] 6 5 1) nilA))) (fzD [] (varD 3)) setO)
theorem put_new {es : List E4} {e : E4} (h : spot e ∉ es.map spot) : putE es e = es ++ [e] := if_neg h
theorem cut_spots (al : Str) (es : List E4) : (es.map (cutE al)).map spot = es.map spot := by rw [List.map_map]; rfl
theorem without_loop {n : Nat} {rs : List Str} {es : List E4} (h : Mach n rs es) {al : Str} (la : al.length ≤ 100000) : ∀ (os acc : List E4) (s3 s4 s5 : Option SV), (∀ e ∈ os, e ∈ es) → ((acc ++ os).map spot).Nodup → acc.length + os.length ≤ 100000 →
    ∃ t3 t4 t5, loopF [] [3] (nameG 3) bodyW (os.map spotD) (EW n es al acc s3 s4 s5) = some (.next, EW n es al (acc ++ os.map (cutE al)) t3 t4 t5)
  | [], acc, s3, s4, s5, _, _, _ => ⟨s3, s4, s5, by rw [show acc ++ List.map (cutE al) [] = acc from List.append_nil acc]; rfl⟩
  | e :: os, acc, s3, s4, s5, he, nd, hl => by
    rw [List.length_cons] at hl
    have hm := h.ok e (he e List.mem_cons_self)
    have few := hm.2.few
    have nd' : (((acc ++ [cutE al e]) ++ os).map spot).Nodup := by
      have : ((acc ++ [cutE al e]) ++ os).map spot = (acc ++ e :: os).map spot := by simp [spot, cutE]
      rw [this]
      exact nd
    obtain ⟨t3, t4, t5, ih⟩ := without_loop h la os (acc ++ [cutE al e]) (some (.dat (spotD e))) (some (.dat (.int (e.g : Int)))) (some (.dat (.str e.m))) (fun x hx => he x (List.mem_cons_of_mem _ hx)) nd' (by rw [List.length_append, List.length_singleton]; omega)
    refine ⟨t3, t4, t5, ?_⟩
    have fresh : spot (cutE al e) ∉ acc.map spot := by
      rw [List.map_append, List.map_cons] at nd
      intro z
      exact (List.nodup_append.mp nd).2.2 _ z _ List.mem_cons_self rfl
    have ix : bin2 (bin2 (varD 0) (conD (.int 1)) ixD) (varD 3) ixD (EW n es al acc (some (.dat (spotD e))) s4 s5) = some (.dat (goal e), EW n es al acc (some (.dat (spotD e))) s4 s5) :=
      bin_at (z := .dat (goal e)) (ixM1 rfl) rfl rfl rfl (ix_spot h.nd (he e List.mem_cons_self))
    have a : asgF [] [4, 5] (bin2 (bin2 (varD 0) (conD (.int 1)) ixD) (varD 3) ixD) (tupG 2 (consG (nameG 4) (consG (nameG 5) nilG))) (EW n es al acc (some (.dat (spotD e))) s4 s5) = some (.next, EW n es al acc (some (.dat (spotD e))) (some (.dat (.int (e.g : Int)))) (some (.dat (.str e.m)))) := by
      simp only [asgF, ix, Option.bind_some]
      rfl
    have k := keep_at (R := []) (a := 6) (b := 5) (c := 1) (ρ := EW n es al acc (some (.dat (spotD e))) (some (.dat (.int (e.g : Int)))) (some (.dat (.str e.m)))) (m := e.m) (al := al) rfl rfl rfl (by omega) (by omega)
    have b : bodyW (EW n es al acc (some (.dat (spotD e))) s4 s5) = some (.next, EW n es al (acc ++ [cutE al e]) (some (.dat (spotD e))) (some (.dat (.int (e.g : Int)))) (some (.dat (.str e.m)))) := by
      unfold bodyW
      refine seq_at a ?_
      refine item_at (y := .mT (kvM acc)) (tup2 (d := .int (e.g : Int)) (fz_dat rfl) k) ⟨_, rfl⟩ (fz_dat (d := spotD e) rfl) rfl rfl ?_
      have st := set_step (es := acc) (by omega) (cutE al e)
      rw [put_new fresh] at st
      exact st
    rw [List.map_cons, loopF, if_pos (by simp)]
    show ((some (EW n es al acc (some (.dat (spotD e))) s4 s5)).bind fun ρ1 => (bodyW ρ1).bind _) = _
    rw [Option.bind_some, b, Option.bind_some]
    have ea : acc ++ (e :: os).map (cutE al) = acc ++ [cutE al e] ++ os.map (cutE al) := by simp
    rw [ea]
    exact ih
/-- without(machine, letters) -/
theorem ev_without {n : Nat} {rs : List Str} {es os : List E4} (h : Mach n rs es) {al : Str} (la : al.length ≤ 100000) (aL : ∀ z ∈ sg al, z ∈ L) (sr : sortF [.dT (kvM es)] = some (.own (.ml (os.map spotD)))) (pm : os.Perm es) : m_without [mD n es, .str al] = some (.dat (mD n (os.map (cutE al)))) := by
  have e : m_without [mD n es, .str al] = (b_without [some (.dat (mD n es)), some (.dat (.str al)), none, none, none, none, none]).bind fin := rfl
  rw [e]
  have sm := h.small
  have ol := pm.length_eq
  obtain ⟨t3, t4, t5, lp⟩ := without_loop h la os [] none none none (fun x hx => pm.mem_iff.mp hx) ((pm.map spot).nodup_iff.mpr h.nd) (by rw [List.length_nil]; omega)
  rw [List.nil_append] at lp
  have main : b_without [some (.dat (mD n es)), some (.dat (.str al)), none, none, none, none, none] = some (.ret (.dat (mD n (os.map (cutE al)))), [some (.dat (mD n es)), some (.dat (.str al)), some (.dat (.dT (kvM (os.map (cutE al))))), t3, t4, t5, none]) := by
    unfold b_without
    refine seq_at (c_mach h rfl) ?_
    refine seq_at (ex_call (callP1 (fz_dat (d := .str al) rfl) (ev_req_row al la ((rowB_iff al).mpr aL)))) ?_
    refine seq_at (ρ1 := EW n es al [] none none none) (set_own (y := .mT []) rfl rfl) ?_
    refine seq_at (for_at (is := os.map spotD) (any_at (fz_own (y := .ml (os.map spotD)) (call1 (z := .own (.ml (os.map spotD))) (ixM1 rfl) rfl sr)) rfl) lp) ?_
    exact ret_dat (tup2' (ρ2 := [some (.dat (mD n es)), some (.dat (.str al)), some (.dat (.dT (kvM (os.map (cutE al))))), t3, t4, t5, none]) (ixM0 rfl) (d := .int (n : Int)) (e := .dT (kvM (os.map (cutE al)))) rfl)
  rw [main]
  rfl
end KA

/-! MO: machines are shown; rows drawn out of any letters. -/
namespace KA
open DL L2 PySem PySem.Spec PyProof.Rows LawT

theorem L_cps : ∀ k ∈ L, ∀ c ∈ k.cps.toList, c < 16 ^ 8 := by decide +kernel
theorem sh_str {m : Str} (h : ∀ z ∈ sg m, z ∈ L) (hl : m.length ≤ 200) : Sh (.str m) 2002 0 := by
  have b := PySem.StrLaws.reprText_len m (fun c hc => by
    have : ([c] : List Nat) ∈ (sg m).map (fun s => s.cps.toList) := by rw [sg_flat]; exact List.mem_map.mpr ⟨c, hc, rfl⟩
    obtain ⟨z, hz, e⟩ := List.mem_map.mp this
    exact L_cps z (h z hz) c (by rw [e]; exact List.mem_singleton_self c))
  exact ⟨.str m, rfl, rfl, Nat.le_refl _, by simp only [PyData.shown]; omega⟩
theorem nat_log (p : Nat) (h : p ≤ 100000) : ((p : Int)).natAbs.log2 < 1920 := by
  rw [Int.natAbs_natCast]
  have : p.log2 < 20 := by
    by_cases z : p = 0
    · subst z; decide +kernel
    · exact (Nat.log2_lt z).mpr (by have : (2 : Nat) ^ 20 = 1048576 := by decide +kernel
                                    omega)
  omega
theorem sh_kvM : ∀ es : List E4, (∀ e ∈ es, e.p ≤ 100000 ∧ e.g ≤ 100000 ∧ e.r ∈ L ∧ Mail e.m) → ∃ ps, D.pxt (kvM es) = some ps ∧ PyData.showableKv ps = true ∧ PyData.depthKv ps ≤ 1 ∧ ((PyData.shownKv ps).map (·.length)).sum ≤ 8000 * es.length ∧ (PyData.shownKv ps).length = es.length
  | [], _ => ⟨[], rfl, by simp [PyData.showableKv], by simp [PyData.depthKv], by simp [PyData.shownKv], by simp [PyData.shownKv]⟩
  | e :: es, h => by
    obtain ⟨ps, h1, h2, h3, h4, h5⟩ := sh_kvM es fun x hx => h x (List.mem_cons_of_mem _ hx)
    obtain ⟨g1, g2, g3, g4⟩ := h e List.mem_cons_self
    have one := len_L e.r g3
    obtain ⟨k, k1, k2, k3, k4⟩ := sh_tup (sh_int (nat_log e.p g1)) (sh_str (m := e.r) (fun z hz => by
      obtain ⟨c, hc⟩ := L_one g3
      have : sg e.r = [e.r] := by rw [hc]; rfl
      rw [this] at hz
      rw [List.mem_singleton.mp hz]
      exact g3) (by omega))
    obtain ⟨v, v1, v2, v3, v4⟩ := sh_tup (sh_int (nat_log e.g g2)) (sh_str g4.let' g4.few)
    have kk : k = .tuple [.int (e.p : Int), .str e.r] := by
      have : D.px (.tup [.int (e.p : Int), .str e.r]) = some (.tuple [.int (e.p : Int), .str e.r]) := rfl
      rw [this] at k1
      exact (Option.some.inj k1).symm
    refine ⟨(k, v) :: ps, ?_, ?_, ?_, ?_, ?_⟩
    · show (D.px (goal e)).bind _ = _
      rw [show D.px (goal e) = some v from v1, Option.bind_some]
      show (D.pxt (kvM es)).bind _ = _
      rw [h1, Option.bind_some, kk]
      rfl
    · simp [PyData.showableKv, k2, v2, h2]
    · simp only [PyData.depthKv]; omega
    · have t3 : (Str.ofString ": ").length = 2 := by decide +kernel
      simp only [List.map_cons, PyData.shownKv, List.sum_cons, List.length_cons, len_app, t3]
      omega
    · simp [PyData.shownKv, h5]
theorem sh_mD {n : Nat} {es : List E4} (hn : n ≤ 2000) (hl : es.length ≤ 200) (h : ∀ e ∈ es, e.p ≤ 100000 ∧ e.g ≤ 100000 ∧ e.r ∈ L ∧ Mail e.m) : Sh (mD n es) 2000000 3 := by
  obtain ⟨ps, h1, h2, h3, h4, h5⟩ := sh_kvM es h
  have d : Sh (.dT (kvM es)) 1900000 2 := by
    refine ⟨.dict ps, by simp [D.px, h1], by simpa only [PyData.showable] using h2, by simp only [PyData.depth]; omega, ?_⟩
    have := dictText_len_le (PyData.shownKv ps)
    simp only [PyData.shown]
    omega
  exact sh_mono (sh_tup (sh_mono (sh_int (nat_log n (by omega))) (Nat.le_refl _) (Nat.zero_le 2)) d) (by omega) (by omega)
theorem Mach.pieces {n : Nat} {rs : List Str} {es : List E4} (h : Mach n rs es) : ∀ e ∈ es, e.p ≤ 100000 ∧ e.g ≤ 100000 ∧ e.r ∈ L ∧ Mail e.m := fun e he => by
  have a := h.at he
  have b := h.ok e he
  have c := h.n1
  exact ⟨by omega, by omega, h.rL _ a.2, b.2⟩
theorem Drawn.sh {n : Nat} {rs : List Str} {es : List E4} (h : Drawn n rs es) : Sh (mD n es) 2000000 3 := sh_mD h.n1 h.few h.pieces
theorem cut_pieces {es : List E4} (al : Str) (h : ∀ e ∈ es, e.p ≤ 100000 ∧ e.g ≤ 100000 ∧ e.r ∈ L ∧ Mail e.m) : ∀ e ∈ es.map (cutE al), e.p ≤ 100000 ∧ e.g ≤ 100000 ∧ e.r ∈ L ∧ Mail e.m := fun e he => by
  obtain ⟨x, hx, rfl⟩ := List.mem_map.mp he
  obtain ⟨h1, h2, h3, h4⟩ := h x hx
  exact ⟨h1, h2, h3, keep_mail h4 al⟩
theorem sh_tells {n : Nat} {rs : List Str} {es : List E4} (h : Mach n rs es) {p : Nat} (hp : p < n) {ls : List Str} (hl : ∀ l ∈ ls, l ∈ rs) (hz : (cat (go es p ls).2).length ≤ 1000) : Sh (KA.told es p ls) 40000 2 := by
  have g := go_ok h ls p hp hl
  have n1 := h.n1
  have row := go_row h hp hl hz
  exact sh_mono (sh_tup (sh_mono (sh_int (nat_log (go es p ls).1 (by omega))) (Nat.le_refl _) (Nat.zero_le 1)) (sh_dC (ok_canon _) (tal_small _ row))) (by omega) (by omega)
theorem sh_goal {e : E4} (h1 : e.g ≤ 100000) (h2 : Mail e.m) : Sh (goal e) 4000 1 := sh_mono (sh_tup (sh_int (nat_log e.g h1)) (sh_str h2.let' h2.few)) (by omega) (by omega)
/-- a row out of letters s -/
theorem ev_row_from {n : Nat} {x : OV} (h : Dice n x) (hn : n < 2 ^ 80) (most : Nat) (hm : most ≤ 20) (s : Str) (h0 : 0 < s.length) (hl : s.length ≤ 1000) (sL : ∀ z ∈ sg s, z ∈ L) : ∃ row x', m__law_row_drawn x [.int most, .str s] = some (.dat (.str row), x') ∧ Dice (n + 40) x' ∧ row.length ≤ most ∧ Row row ∧ ∀ z ∈ sg row, z ∈ sg s := by
  have e : m__law_row_drawn x [.int most, .str s] = (b__law_row_drawn [some (.own x), some (.dat (.int most)), some (.dat (.str s)), none]).bind finR := rfl
  have q80 : (2 : Nat) ^ 80 + 100 < 2 ^ 90 := by decide
  have q100 : (2 : Nat) ^ 90 < 2 ^ 100 := by decide
  have far : (1000 : Int) ≤ 10 ^ 60 := by decide
  obtain ⟨r, x1, e1, r0, r1, d1⟩ := c_roll h (t := (most : Int) + 1) (by omega) (by omega) (by omega) (R := []) (g := fzD [0] (bin2 (varD 1) (conD (.int 1)) addD)) (ρ := [some (.dat (.int most)), some (.dat (.str s)), none]) (by simp [fzD, bin2, varD, conD, rd, addD, SV.r])
  obtain ⟨m, rfl⟩ := Int.eq_ofNat_of_zero_le r0
  have ne : eqX (.str s) (.str "") = some false := by
    have : ¬ s = ("" : Str) := fun z => by
      rw [z] at h0
      exact absurd h0 (by decide +kernel)
    simp [eqX, eqN, eqLeaf, D.pd, PyData.depth, PyData.eqv, this]
  have ci : ifF (tstF (bin2 (varD 2) (conD (.str "")) (asB eqX true))) (callR (gdR 2 m__law_roll) (consA (varD 0) (consA (fzD [0] (bin2 (varD 1) (conD (.int 1)) addD)) nilA))) (conD (.int 0)) [some (.own x), some (.dat (.int most)), some (.dat (.str s)), none] = some (.dat (.int m), [some (.own x1), some (.dat (.int most)), some (.dat (.str s)), none]) := by
    have ct : tstF (bin2 (varD 2) (conD (.str "")) (asB eqX true)) [some (.own x), some (.dat (.int most)), some (.dat (.str s)), none] = some (true, [some (.own x), some (.dat (.int most)), some (.dat (.str s)), none]) := by
      simp [tstF, bin2, varD, conD, rd, asB, ne, SV.r]
    unfold ifF
    rw [ct, Option.bind_some, if_pos rfl]
    exact e1
  have fi : rng1I (consA (ifF (tstF (bin2 (varD 2) (conD (.str "")) (asB eqX true))) (callR (gdR 2 m__law_roll) (consA (varD 0) (consA (fzD [0] (bin2 (varD 1) (conD (.int 1)) addD)) nilA))) (conD (.int 0))) nilA) [some (.own x), some (.dat (.int most)), some (.dat (.str s)), none] = some (rngL 0 m, [some (.own x1), some (.dat (.int most)), some (.dat (.str s)), none]) := by
    unfold rng1I
    rw [cons_at (g := nilA) ci rfl, Option.bind_some]
    show (if _ then _ else _) = _
    rw [if_pos (by omega)]
    rfl
  have hml : m ≤ 20 := by omega
  obtain ⟨ys, sub, x2, e2, d2, sl, pr⟩ := compL_dice (vs := [3]) (g := nameG 3) (t := yesT) (f := callR (gdR 2 m__law_pick) (consA (varD 0) (consA (fzD [0] (varD 2)) nilA))) (rest := [some (.dat (.int most)), some (.dat (.str s)), none]) (k := 1) (fun _ y => ∃ z, z ∈ sg s ∧ y = .str z) (rngL 0 m) (n + 1) x1 d1 (by rw [rng_len]; omega) (fun d _ n' y hy hn' => by
    refine ⟨[some (.own y), some (.dat (.int most)), some (.dat (.str s)), some (.dat d)], true, [some (.own y), some (.dat (.int most)), some (.dat (.str s)), some (.dat d)], rfl, rfl, (fun z => by cases z), fun _ => ?_⟩
    obtain ⟨z, y', hz, e3, d3⟩ := c_pick_str hy (by omega) s h0 hl (f := fzD [0] (varD 2)) (ρ := [some (.dat (.int most)), some (.dat (.str s)), some (.dat d)]) rfl
    exact ⟨.str z, _, y', e3, rfl, d3, z, hz, rfl⟩)
  obtain ⟨ss, rfl, hs, lss⟩ := strs_pair (P := fun z => z ∈ sg s) (fun _ y q => q) pr
  have l2 : ss.length ≤ most := by
    rw [lss]
    have := sl.length_le
    rw [rng_len] at this
    omega
  have one : ∀ z ∈ ss, z.length = 1 := fun z hz => sg_one (hs z hz)
  have js := join_sg ss one
  have jl : (Txt.join "" ss).length = ss.length := by rw [← len_sg, js]
  refine ⟨Txt.join "" ss, x2, ?_, d2.mono (by rw [rng_len]; omega), by omega, ⟨by omega, fun z hz => sL z (hs z (by rw [js] at hz; exact hz))⟩, fun z hz => hs z (by rw [js] at hz; exact hz)⟩
  have lc : lcF [3] (rng1I (consA (ifF (tstF (bin2 (varD 2) (conD (.str "")) (asB eqX true))) (callR (gdR 2 m__law_roll) (consA (varD 0) (consA (fzD [0] (bin2 (varD 1) (conD (.int 1)) addD)) nilA))) (conD (.int 0))) nilA)) (nameG 3) yesT (callR (gdR 2 m__law_pick) (consA (varD 0) (consA (fzD [0] (varD 2)) nilA))) [some (.own x), some (.dat (.int most)), some (.dat (.str s)), none] = some (.own (.ml (ss.map D.str)), [some (.own x2), some (.dat (.int most)), some (.dat (.str s)), none]) := by
    unfold lcF
    rw [fi, Option.bind_some]
    have z : noneAt [some (.own x1), some (.dat (.int most)), some (.dat (.str s)), none] [3] = true ∧ (rngL 0 m).length ≤ sizeLine := ⟨rfl, by rw [rng_len, sizeLine_eq]; omega⟩
    rw [if_pos z]
    show ((compL [3] (nameG 3) yesT (callR (gdR 2 m__law_pick) (consA (varD 0) (consA (fzD [0] (varD 2)) nilA))) (rngL 0 m) [some (.own x1), some (.dat (.int most)), some (.dat (.str s)), none]).bind _) = _
    rw [e2]
    rfl
  have jm : joinM (.str "") [.lst (ss.map D.str)] = some (.dat (.str (Txt.join "" ss))) := by
    have sum1 := sum_one ss one
    have e0 : ("" : Str).length = 0 := by decide +kernel
    show ((strsOf (ss.map D.str)).bind _) = _
    rw [strsOf_map, Option.bind_some, if_pos (by rw [sum1, e0]; omega)]
  rw [e]
  simp only [b__law_row_drawn, retF, meF, conD, Option.bind_some, rd, tyN, if_true]
  rw [cons_at (g := nilA) lc rfl]
  simp only [Option.bind_some, rds, rd, OV.d, jm, SV.r]
  rfl
theorem row_none {n : Nat} {x : OV} (h : Dice n x) (most : Nat) : m__law_row_drawn x [.int most, .str ""] = some (.dat (.str ""), x) := by
  have e : m__law_row_drawn x [.int most, .str ""] = (b__law_row_drawn [some (.own x), some (.dat (.int most)), some (.dat (.str "")), none]).bind finR := rfl
  have ct : tstF (bin2 (varD 2) (conD (.str "")) (asB eqX true)) [some (.own x), some (.dat (.int most)), some (.dat (.str "")), none] = some (false, [some (.own x), some (.dat (.int most)), some (.dat (.str "")), none]) :=
    tst_at (bin_at (z := .dat (.bl false)) rfl rfl rfl rfl (by show (eqX (.str "") (.str "")).map _ = _; rw [eq_str]; rfl))
  have main : b__law_row_drawn [some (.own x), some (.dat (.int most)), some (.dat (.str "")), none] = some (.ret (.dat (.str (Txt.join "" []))), [some (.own x), some (.dat (.int most)), some (.dat (.str "")), none]) := by
    unfold b__law_row_drawn
    generalize callR (gdR 2 m__law_roll) (consA (varD 0) (consA (fzD [0] (bin2 (varD 1) (conD (.int 1)) addD)) nilA)) = gg
    generalize callR (gdR 2 m__law_pick) (consA (varD 0) (consA (fzD [0] (varD 2)) nilA)) = gp
    have ci : ifF (tstF (bin2 (varD 2) (conD (.str "")) (asB eqX true))) gg (conD (.int 0)) [some (.own x), some (.dat (.int most)), some (.dat (.str "")), none] = some (.dat (.int ((0 : Nat) : Int)), [some (.own x), some (.dat (.int most)), some (.dat (.str "")), none]) := by
      unfold ifF
      rw [ct, Option.bind_some, if_neg Bool.false_ne_true]
      rfl
    refine ret_dat (me_join (ss := []) (lc_at (is := []) (rng_at (w := 0) ci (by omega)) rfl (Nat.zero_le _) rfl) (by simp))
  rw [e, main]
  rfl
/-- a row out of any letters -/
theorem ev_row_any {n : Nat} {x : OV} (h : Dice n x) (hn : n < 2 ^ 80) (most : Nat) (hm : most ≤ 20) (s : Str) (hl : s.length ≤ 1000) (sL : ∀ z ∈ sg s, z ∈ L) : ∃ row x', m__law_row_drawn x [.int most, .str s] = some (.dat (.str row), x') ∧ Dice (n + 40) x' ∧ row.length ≤ most ∧ Row row ∧ ∀ z ∈ sg row, z ∈ sg s := by
  by_cases z : s = ""
  · subst z
    refine ⟨"", x, row_none h most, h.mono (by omega), Nat.zero_le _, ⟨by decide +kernel, by decide +kernel⟩, fun z hz => hz⟩
  · refine ev_row_from h hn most hm s ?_ hl sL
    rcases Nat.eq_zero_or_pos s.length with w | w
    · exfalso
      apply z
      have : s.cps.toList = [] := by rw [← List.length_eq_zero_iff, len_tl]; exact w
      exact str_tl (by rw [this]; decide +kernel)
    · exact w
end KA

/-! MP: a turn at a drawn machine. -/
namespace KA
open DL L2 PySem PySem.Spec PyProof.Rows LawT

theorem go_few {n : Nat} {rs : List Str} {es : List E4} (h : Drawn n rs es) {p : Nat} (hp : p < n) {ls : List Str} (hl : ∀ l ∈ ls, l ∈ rs) : (cat (go es p ls).2).length ≤ ls.length * 12 := by
  have g := go_ok h.toMach ls p hp hl
  rw [len_cat, ← g.2.2]
  refine sum_bound 12 _ fun m hm => ?_
  obtain ⟨e, he, rfl⟩ := g.2.1 m hm
  exact h.m12 e he
theorem cutD_at {z : Str} {lo hi : Option Int} (h : z.length ≤ 1000000) : cutD (.str z) lo hi = some (.str (cutS z lo hi)) := by
  show (if _ then _ else _) = _
  rw [if_pos (by rw [sizeLine_eq]; omega)]
theorem slc_lo {i j : Nat} {ρ : EnvD} {z : Str} {k : Nat} (h1 : ρ[i]? = some (some (.dat (.str z)))) (h2 : ρ[j]? = some (some (.dat (.int (k : Int))))) (h : z.length ≤ 1000000) : slcF (varD i) noneO (someO (varD j)) ρ = some (.dat (.str (cutS z none (some (k : Int)))), ρ) := by
  simp only [slcF, noneO, someO, var_dat h1, var_dat h2, Option.bind_some, rd, cutD_at h]
theorem slc_hi {i j : Nat} {ρ : EnvD} {z : Str} {k : Nat} (h1 : ρ[i]? = some (some (.dat (.str z)))) (h2 : ρ[j]? = some (some (.dat (.int (k : Int))))) (h : z.length ≤ 1000000) : slcF (varD i) (someO (varD j)) noneO ρ = some (.dat (.str (cutS z (some (k : Int)) none)), ρ) := by
  simp only [slcF, noneO, someO, var_dat h1, var_dat h2, Option.bind_some, rd, cutD_at h]
theorem tst_ne {f g : FE} {ρ ρ1 ρ2 : EnvD} {d : D} (h1 : f ρ = some (.dat d, ρ1)) (h2 : g ρ1 = some (.dat d, ρ2)) (h : eqX d d = some true) : tstF (bin2 f g (asB eqX true)) ρ = some (false, ρ2) :=
  tst_at (bin_at (z := .dat (.bl false)) h1 h2 rfl rfl (by show (eqX d d).map _ = _; rw [h]; rfl))
theorem or_ff' {f g : FT} {ρ ρ1 : EnvD} {out : Option (Bool × EnvD)} (h : f ρ = some (false, ρ1)) (h2 : g ρ1 = out) : orT f g ρ = out := by
  simp only [orT, h, Option.bind_some, Bool.false_eq_true, if_false, h2]
abbrev ET (x : OV) (N : Nat) (es : List E4) (kept : Str) (s4 s5 s6 s7 s8 s9 s10 : Option SV) : EnvD := [some (.own x), some (.dat (mD N es)), some (.dat (.str (readT es))), some (.dat (.str kept)), s4, s5, s6, s7, s8, s9, s10, none, none, none, none, none, none, none]
def walkF (f : FE) : FE := callP (gdP 3 m_walk) (consA (fzD [0] (varD 1)) (consA (fzD [0] (varD 5)) (consA f nilA)))
def bad : FT → FS := fun t => ifS t (retF (conD (.bl false))) nextF
theorem bad_ff {t : FT} {ρ ρ1 : EnvD} (h : t ρ = some (false, ρ1)) : bad t ρ = some (.next, ρ1) := if_ff h rfl
def bodyT : FS := seqF (parF [0] 5 6 (callR (gdR 2 m__law_roll) (consA (varD 0) (consA (bin2 (varD 1) (conD (.int 0)) ixD) nilA))) (callR (gdR 3 m__law_row_drawn) (consA (varD 0) (consA (conD (.int 12)) (consA (fzD [0] (varD 2)) nilA))))) (seqF (bad (tstF (bin2 (callF (consA (walkF (fzD [0] (varD 6))) nilA) reprF) (callF (consA (callP (gdP 3 m__law_walked) (consA (fzD [0] (varD 1)) (consA (fzD [0] (varD 5)) (consA (fzD [0] (varD 6)) nilA)))) nilA) reprF) (asB eqX true)))) (seqF (setF [0] 7 (callR (gdR 2 m__law_roll) (consA (varD 0) (consA (fzD [0] (bin2 (callF (consA (varD 6) nilA) lenS) (conD (.int 1)) addD)) nilA)))) (seqF (setF [0] 8 (walkF (fzD [0] (slcF (varD 6) noneO (someO (varD 7)))))) (seqF (setF [0] 9 (callP (gdP 3 m_walk) (consA (fzD [0] (varD 1)) (consA (bin2 (varD 8) (conD (.int 0)) ixD) (consA (fzD [0] (slcF (varD 6) (someO (varD 7)) noneO)) nilA))))) (seqF (bad (tstF (bin2 (tupF (consA (bin2 (varD 9) (conD (.int 0)) ixD) (consA (callP (gdP 2 m__law_added) (consA (bin2 (varD 8) (conD (.int 1)) ixD) (consA (bin2 (varD 9) (conD (.int 1)) ixD) nilA))) nilA))) (walkF (fzD [0] (varD 6))) (asB eqX true)))) (ifS (tstF (bin2 (varD 2) (conD (.str "")) (asB eqX true))) (seqF (setF [0] 10 (callR (gdR 2 m__law_pick) (consA (varD 0) (consA (fzD [0] (varD 2)) nilA)))) (bad (tstF (bin2 (callF (consA (callP (gdP 3 m_step_of) (consA (fzD [0] (varD 1)) (consA (fzD [0] (varD 5)) (consA (fzD [0] (varD 10)) nilA)))) nilA) reprF) (callF (consA (bin2 (bin2 (varD 1) (conD (.int 1)) ixD) (tupF (consA (fzD [0] (varD 5)) (consA (fzD [0] (varD 10)) nilA))) ixD) nilA) reprF) (asB eqX true))))) nextF))))))
theorem turn_step {n : Nat} {x : OV} (hx : Dice n x) (hn : n < 2 ^ 79) {N : Nat} {rs : List Str} {es : List E4} (h : Drawn N rs es) (kept : Str) (s4 s5 s6 s7 s8 s9 s10 : Option SV) :
    ∃ x' t5 t6 t7 t8 t9 t10, bodyT (ET x N es kept s4 s5 s6 s7 s8 s9 s10) = some (.next, ET x' N es kept s4 t5 t6 t7 t8 t9 t10) ∧ Dice (n + 50) x' := by
  have q79 : (2 : Nat) ^ 79 + 1000 < 2 ^ 80 := by decide
  have q80 : (2 : Nat) ^ 80 < 2 ^ 100 := by decide
  have hM := h.toMach
  have n0 := h.n0
  have n25 := h.n25
  have r8 := h.r8
  have lr := hM.lenRead
  have rL : ∀ z ∈ sg (readT es), z ∈ L := fun z hz => h.rL z ((hM.memRead z).mp hz)
  obtain ⟨p, x1, e1, hp, d1⟩ := roll_at hx (by omega) (N := N) (by omega) (by omega) (g := bin2 (varD 1) (conD (.int 0)) ixD) (ρ := [some (.dat (mD N es)), some (.dat (.str (readT es))), some (.dat (.str kept)), s4, s5, s6, s7, s8, s9, s10, none, none, none, none, none, none, none]) (ixM0 rfl)
  obtain ⟨row, x2, e2, d2, rl, hr, rm⟩ := ev_row_any d1 (by omega) 12 (by omega) (readT es) (by omega) rL
  have c2 : callR (gdR 3 m__law_row_drawn) (consA (varD 0) (consA (conD (.int 12)) (consA (fzD [0] (varD 2)) nilA))) (ET x1 N es kept s4 s5 s6 s7 s8 s9 s10) = some (.dat (.str row), ET x2 N es kept s4 s5 s6 s7 s8 s9 s10) :=
    callR_at (F := m__law_row_drawn) (n := 3) (ds := [.int 12, .str (readT es)]) (cons_at (f := conD (.int 12)) rfl (cons_at (f := fzD [0] (varD 2)) (g := nilA) rfl rfl)) rfl e2
  have hl : ∀ l ∈ sg row, l ∈ rs := fun l hl => (hM.memRead l).mp (rm l hl)
  have lsg := len_sg row
  have gz := go_few h hp hl
  have ew := ev_walk hM hp hl (by omega) (by omega)
  have eq := ev_law_walked hM hp hl (by omega) (by omega)
  obtain ⟨k, x3, e3, hk, d3⟩ := roll_at d2 (by omega) (N := row.length + 1) (by omega) (by omega) (g := fzD [0] (bin2 (callF (consA (varD 6) nilA) lenS) (conD (.int 1)) addD)) (ρ := [some (.dat (mD N es)), some (.dat (.str (readT es))), some (.dat (.str kept)), s4, some (.dat (.int (p : Int))), some (.dat (.str row)), s7, s8, s9, s10, none, none, none, none, none, none, none]) (fz_d (by
    rw [Int.natCast_add]
    exact bin_at (z := .dat (.int ((row.length : Int) + 1))) (call1 (z := .dat (.int (row.length : Int))) (var_dat (d := .str row) rfl) rfl (len_str (by omega))) rfl rfl rfl rfl))
  have lo := cut_lo (z := row) (k := k) (by omega)
  have hi := cut_hi (z := row) (k := k) (by omega)
  have sl := slc_lo (i := 6) (j := 7) (z := row) (k := k) (ρ := ET x3 N es kept s4 (some (.dat (.int (p : Int)))) (some (.dat (.str row))) (some (.dat (.int (k : Int)))) s8 s9 s10) rfl rfl (by omega)
  have sh (t8 : Option SV) := slc_hi (i := 6) (j := 7) (z := row) (k := k) (ρ := ET x3 N es kept s4 (some (.dat (.int (p : Int)))) (some (.dat (.str row))) (some (.dat (.int (k : Int)))) t8 s9 s10) rfl rfl (by omega)
  generalize cutS row none (some (k : Int)) = A at lo sl
  generalize cutS row (some (k : Int)) none = B at hi sh
  have tl : ∀ l ∈ sg A, l ∈ rs := fun l hl' => hl l (by rw [lo] at hl'; exact List.mem_of_mem_take hl')
  have dl : ∀ l ∈ sg B, l ∈ rs := fun l hl' => hl l (by rw [hi] at hl'; exact List.mem_of_mem_drop hl')
  have tn : A.length ≤ 12 := by rw [← len_sg, lo, List.length_take]; omega
  have dn : B.length ≤ 12 := by rw [← len_sg, hi, List.length_drop]; omega
  have lt := len_sg A
  have ld := len_sg B
  have gt := go_few h hp tl
  have hp2 := (go_ok hM (sg A) p hp tl).1
  have gd := go_few h hp2 dl
  have ew1 := ev_walk hM hp tl (by omega) (by omega)
  have ew2 := ev_walk hM hp2 dl (by omega) (by omega)
  have row1 := go_row hM hp tl (by omega)
  have row2 := go_row hM hp2 dl (by omega)
  have split : go es p (sg row) = ((go es (go es p (sg A)).1 (sg B)).1, (go es p (sg A)).2 ++ (go es (go es p (sg A)).1 (sg B)).2) := by
    rw [← go_app hM (sg A) (sg B) p hp tl, lo, hi, List.take_append_drop]
  have ea := ev_law_added (ok_canon (tal (cat (go es p (sg A)).2))) (ok_canon (tal (cat (go es (go es p (sg A)).1 (sg B)).2)))
  have ec : (canon fun q => val (canon (tal (cat (go es p (sg A)).2))) q + val (canon (tal (cat (go es (go es p (sg A)).1 (sg B)).2))) q) = canon (tal (cat (go es p (sg row)).2)) := canon_congr fun q _ => by
    rw [val_canon (tal_out row1), val_canon (tal_out row2), split, cat_app, tal_app]
  rw [ec] at ea
  have ep : (go es p (sg row)).1 = (go es (go es p (sg A)).1 (sg B)).1 := by rw [split]
  have rest : ∃ x' t10, ifS (tstF (bin2 (varD 2) (conD (.str "")) (asB eqX true))) (seqF (setF [0] 10 (callR (gdR 2 m__law_pick) (consA (varD 0) (consA (fzD [0] (varD 2)) nilA)))) (bad (tstF (bin2 (callF (consA (callP (gdP 3 m_step_of) (consA (fzD [0] (varD 1)) (consA (fzD [0] (varD 5)) (consA (fzD [0] (varD 10)) nilA)))) nilA) reprF) (callF (consA (bin2 (bin2 (varD 1) (conD (.int 1)) ixD) (tupF (consA (fzD [0] (varD 5)) (consA (fzD [0] (varD 10)) nilA))) ixD) nilA) reprF) (asB eqX true))))) nextF (ET x3 N es kept s4 (some (.dat (.int (p : Int)))) (some (.dat (.str row))) (some (.dat (.int (k : Int)))) (some (.dat (KA.told es p (sg A)))) (some (.dat (KA.told es (go es p (sg A)).1 (sg B)))) s10) = some (.next, ET x' N es kept s4 (some (.dat (.int (p : Int)))) (some (.dat (.str row))) (some (.dat (.int (k : Int)))) (some (.dat (KA.told es p (sg A)))) (some (.dat (KA.told es (go es p (sg A)).1 (sg B)))) t10) ∧ Dice (n + 50) x' := by
    have hP : (go es p (sg A)).1 < N := hp2
    by_cases w : readT es = ""
    · refine ⟨x3, s10, if_ff (tst_ne (d := .str "") (var_dat (by rw [← w]; rfl)) rfl (eq_str _)) rfl, d3.mono (by omega)⟩
    · have lp : 0 < (readT es).length := by
        rcases Nat.eq_zero_or_pos (readT es).length with v | v
        · exfalso
          have : (readT es).cps.toList = [] := by rw [← List.length_eq_zero_iff, len_tl]; exact v
          exact w (str_tl (by rw [this]; decide +kernel))
        · exact v
      obtain ⟨l, x4, lm, e4, d4⟩ := c_pick_str d3 (by omega) (readT es) lp (by omega) (f := fzD [0] (varD 2)) (ρ := [some (.dat (mD N es)), some (.dat (.str (readT es))), some (.dat (.str kept)), s4, some (.dat (.int (p : Int))), some (.dat (.str row)), some (.dat (.int (k : Int))), some (.dat (KA.told es p (sg A))), some (.dat (KA.told es (go es p (sg A)).1 (sg B))), s10, none, none, none, none, none, none, none]) rfl
      obtain ⟨e, he, rfl, rfl, _⟩ := hM.look hp ((hM.memRead l).mp lm)
      have hk := hM.pieces e he
      refine ⟨x4, some (.dat (.str e.r)), if_tt (tst_at (bin_at (z := .dat (.bl true)) (var_dat (d := .str (readT es)) rfl) rfl rfl rfl (by show (eqX (.str (readT es)) (.str "")).map _ = _; rw [eq_strs, decide_eq_false w]; rfl))) ?_, d4.mono (by omega)⟩
      refine seq_at (ρ1 := ET x4 N es kept s4 (some (.dat (.int (e.p : Int)))) (some (.dat (.str row))) (some (.dat (.int (k : Int)))) (some (.dat (KA.told es e.p (sg A)))) (some (.dat (KA.told es (go es e.p (sg A)).1 (sg B)))) (some (.dat (.str e.r)))) (set_dat e4 rfl) ?_
      exact bad_ff (tst_at (repr_same (sh_goal hk.2.1 hk.2.2.2) (by omega) (by omega) ⟨_, callP3 (fz_dat rfl) (fz_dat rfl) (fz_dat rfl) (ev_step_of hM he), rfl⟩ ⟨_, ix_step hM he rfl (fz_dat rfl) (fz_dat rfl), rfl⟩ true))
  obtain ⟨x', t10, er, dr⟩ := rest
  refine ⟨x', some (.dat (.int (p : Int))), some (.dat (.str row)), some (.dat (.int (k : Int))), some (.dat (KA.told es p (sg A))), some (.dat (KA.told es (go es p (sg A)).1 (sg B))), t10, ?_, dr⟩
  unfold bodyT
  refine seq_at (par_dat e1 c2 rfl rfl) ?_
  refine seq_at (bad_ff (tst_at (repr_same (sh_tells hM hp hl (by omega)) (by omega) (by omega) ⟨_, callP3 (fz_dat rfl) (fz_dat rfl) (fz_dat rfl) ew, rfl⟩ ⟨_, callP3 (fz_dat rfl) (fz_dat rfl) (fz_dat rfl) eq, rfl⟩ true))) ?_
  refine seq_at (ρ1 := ET x3 N es kept s4 (some (.dat (.int (p : Int)))) (some (.dat (.str row))) (some (.dat (.int (k : Int)))) s8 s9 s10) (set_dat e3 rfl) ?_
  refine seq_at (ρ1 := ET x3 N es kept s4 (some (.dat (.int (p : Int)))) (some (.dat (.str row))) (some (.dat (.int (k : Int)))) (some (.dat (KA.told es p (sg A)))) s9 s10) (set_dat (callP3 (z := .dat (KA.told es p (sg A))) (fz_dat rfl) (fz_dat rfl) (fz_d sl) ew1) rfl) ?_
  refine seq_at (ρ1 := ET x3 N es kept s4 (some (.dat (.int (p : Int)))) (some (.dat (.str row))) (some (.dat (.int (k : Int)))) (some (.dat (KA.told es p (sg A)))) (some (.dat (KA.told es (go es p (sg A)).1 (sg B)))) s10) (set_dat (callP3 (z := .dat (KA.told es (go es p (sg A)).1 (sg B))) (fz_dat rfl) (bin_at (z := .dat (.int ((go es p (sg A)).1 : Int))) (var_dat rfl) rfl rfl rfl rfl) (fz_d (sh _)) ew2) rfl) ?_
  refine seq_at (bad_ff (tst_ne (d := KA.told es p (sg row)) (tup2 (d := .int ((go es p (sg row)).1 : Int)) ?_ (callP2 (d := dC (canon (tal (cat (go es p (sg A)).2)))) (e := dC (canon (tal (cat (go es (go es p (sg A)).1 (sg B)).2)))) ?_ ?_ ea)) (callP3 (fz_dat rfl) (fz_dat rfl) (fz_dat rfl) ew) (eqN_told _ _ _ 58))) er
  · rw [ep]
    exact bin_at (z := .dat (.int ((go es (go es p (sg A)).1 (sg B)).1 : Int))) (var_dat rfl) rfl rfl rfl rfl
  · exact bin_at (z := .dat (dC (canon (tal (cat (go es p (sg A)).2))))) (var_dat rfl) rfl rfl rfl rfl
  · exact bin_at (z := .dat (dC (canon (tal (cat (go es (go es p (sg A)).1 (sg B)).2))))) (var_dat rfl) rfl rfl rfl rfl
end KA

/-! MQ: a drawn machine is right. -/
namespace KA
open DL L2 PySem PySem.Spec PyProof.Rows LawT

abbrev EDu (x : OV) (N : Nat) (es : List E4) (kept : Str) (s4 s5 s6 s7 s8 s9 s10 : Option SV) (al : Str) (s12 : Option SV) (acc : List E4) (s14 s15 s16 : Option SV) : EnvD := [some (.own x), some (.dat (mD N es)), some (.dat (.str (readT es))), some (.dat (.str kept)), s4, s5, s6, s7, s8, s9, s10, some (.dat (.str al)), s12, some (.own (.mT (kvM acc))), s14, s15, s16, none]
def bodyDu : FS := seqF (asgF [0] [15, 16] (bin2 (bin2 (varD 1) (conD (.int 1)) ixD) (varD 14) ixD) (tupG 2 (consG (nameG 15) (consG (nameG 16) nilG)))) (itemF 13 (tupF (consA (fzD [0] (varD 15)) (consA (keepF [0] 17 16 11) nilA))) (fzD [0] (varD 14)) setO)
theorem due_loop {n : Nat} {rs : List Str} {es : List E4} (h : Mach n rs es) {al : Str} (la : al.length ≤ 100000) (x : OV) (kept : Str) (q4 q5 q6 q7 q8 q9 q10 q12 : Option SV) : ∀ (os acc : List E4) (s3 s4 s5 : Option SV), (∀ e ∈ os, e ∈ es) → ((acc ++ os).map spot).Nodup → acc.length + os.length ≤ 100000 →
    ∃ t3 t4 t5, loopF [0] [14] (nameG 14) bodyDu (os.map spotD) (EDu x n es kept q4 q5 q6 q7 q8 q9 q10 al q12 acc s3 s4 s5) = some (.next, EDu x n es kept q4 q5 q6 q7 q8 q9 q10 al q12 (acc ++ os.map (cutE al)) t3 t4 t5)
  | [], acc, s3, s4, s5, _, _, _ => ⟨s3, s4, s5, by rw [show acc ++ List.map (cutE al) [] = acc from List.append_nil acc]; rfl⟩
  | e :: os, acc, s3, s4, s5, he, nd, hl => by
    rw [List.length_cons] at hl
    have hm := h.ok e (he e List.mem_cons_self)
    have few := hm.2.few
    have nd' : (((acc ++ [cutE al e]) ++ os).map spot).Nodup := by
      have : ((acc ++ [cutE al e]) ++ os).map spot = (acc ++ e :: os).map spot := by simp [spot, cutE]
      rw [this]
      exact nd
    obtain ⟨t3, t4, t5, ih⟩ := due_loop h la x kept q4 q5 q6 q7 q8 q9 q10 q12 os (acc ++ [cutE al e]) (some (.dat (spotD e))) (some (.dat (.int (e.g : Int)))) (some (.dat (.str e.m))) (fun x hx => he x (List.mem_cons_of_mem _ hx)) nd' (by rw [List.length_append, List.length_singleton]; omega)
    refine ⟨t3, t4, t5, ?_⟩
    have fresh : spot (cutE al e) ∉ acc.map spot := by
      rw [List.map_append, List.map_cons] at nd
      intro z
      exact (List.nodup_append.mp nd).2.2 _ z _ List.mem_cons_self rfl
    have ix : bin2 (bin2 (varD 1) (conD (.int 1)) ixD) (varD 14) ixD (EDu x n es kept q4 q5 q6 q7 q8 q9 q10 al q12 acc (some (.dat (spotD e))) s4 s5) = some (.dat (goal e), EDu x n es kept q4 q5 q6 q7 q8 q9 q10 al q12 acc (some (.dat (spotD e))) s4 s5) :=
      bin_at (z := .dat (goal e)) (ixM1 rfl) rfl rfl rfl (ix_spot h.nd (he e List.mem_cons_self))
    have a : asgF [0] [15, 16] (bin2 (bin2 (varD 1) (conD (.int 1)) ixD) (varD 14) ixD) (tupG 2 (consG (nameG 15) (consG (nameG 16) nilG))) (EDu x n es kept q4 q5 q6 q7 q8 q9 q10 al q12 acc (some (.dat (spotD e))) s4 s5) = some (.next, EDu x n es kept q4 q5 q6 q7 q8 q9 q10 al q12 acc (some (.dat (spotD e))) (some (.dat (.int (e.g : Int)))) (some (.dat (.str e.m)))) := by
      simp only [asgF, ix, Option.bind_some]
      rfl
    have k := keep_at (R := [0]) (a := 17) (b := 16) (c := 11) (ρ := EDu x n es kept q4 q5 q6 q7 q8 q9 q10 al q12 acc (some (.dat (spotD e))) (some (.dat (.int (e.g : Int)))) (some (.dat (.str e.m)))) (m := e.m) (al := al) rfl rfl rfl (by omega) (by omega)
    have b : bodyDu (EDu x n es kept q4 q5 q6 q7 q8 q9 q10 al q12 acc (some (.dat (spotD e))) s4 s5) = some (.next, EDu x n es kept q4 q5 q6 q7 q8 q9 q10 al q12 (acc ++ [cutE al e]) (some (.dat (spotD e))) (some (.dat (.int (e.g : Int)))) (some (.dat (.str e.m)))) := by
      unfold bodyDu
      refine seq_at a ?_
      refine item_at (y := .mT (kvM acc)) (tup2 (d := .int (e.g : Int)) (fz_dat rfl) k) ⟨_, rfl⟩ (fz_dat (d := spotD e) rfl) rfl rfl ?_
      have st := set_step (es := acc) (by omega) (cutE al e)
      rw [put_new fresh] at st
      exact st
    rw [List.map_cons, loopF, if_pos (by simp)]
    show ((some (EDu x n es kept q4 q5 q6 q7 q8 q9 q10 al q12 acc (some (.dat (spotD e))) s4 s5)).bind fun ρ1 => (bodyDu ρ1).bind _) = _
    rw [Option.bind_some, b, Option.bind_some]
    have ea : acc ++ (e :: os).map (cutE al) = acc ++ [cutE al e] ++ os.map (cutE al) := by simp
    rw [ea]
    exact ih
/-- _law_machine_right(dice, machine) -/
theorem ev_machine_right {n : Nat} {x : OV} (hx : Dice n x) (hn : n < 2 ^ 60) {N : Nat} {rs : List Str} {es : List E4} (h : Drawn N rs es) : ∃ x', m__law_machine_right x [mD N es] = some (.dat (.bl true), x') ∧ Dice (n + 1000) x' := by
  have q60 : (2 : Nat) ^ 60 + 10000 < 2 ^ 79 := by decide
  have q79 : (2 : Nat) ^ 79 < 2 ^ 80 := by decide
  have hM := h.toMach
  have few := h.few
  have n25 := h.n25
  obtain ⟨kept, hk⟩ := h.sh.repr (by omega) (by omega)
  suffices main : ∃ x' ρ', b__law_machine_right [some (.own x), some (.dat (mD N es)), none, none, none, none, none, none, none, none, none, none, none, none, none, none, none, none] = some (.ret (.dat (.bl true)), ρ') ∧ ρ'[0]? = some (some (.own x')) ∧ Dice (n + 1000) x' by
    obtain ⟨x', ρ', m1, m2, m3⟩ := main
    refine ⟨x', ?_, m3⟩
    have e : m__law_machine_right x [mD N es] = (b__law_machine_right [some (.own x), some (.dat (mD N es)), none, none, none, none, none, none, none, none, none, none, none, none, none, none, none, none]).bind finR := rfl
    rw [e, m1, Option.bind_some]
    simp only [finR, m2]
  obtain ⟨ρF, lq, x1, s4, s5, s6, s7, s8, s9, s10, rfl, d1⟩ := loop_cnt (R := [0]) (vs := [4]) (g := nameG 4) (body := bodyT) (fun i ρ => ∃ x1 s4 s5 s6 s7 s8 s9 s10, ρ = ET x1 N es kept s4 s5 s6 s7 s8 s9 s10 ∧ Dice (n + 50 * i) x1) (by simp) (rngL 0 4) 0 (ET x N es kept none none none none none none none) (fun d hd j hj ρ ⟨x1, s4, s5, s6, s7, s8, s9, s10, hρ, a0⟩ => by
    subst hρ
    rw [rng_len] at hj
    obtain ⟨x', t5, t6, t7, t8, t9, t10, b1, b2⟩ := turn_step a0 (by omega) h kept (some (.dat d)) s5 s6 s7 s8 s9 s10
    exact ⟨_, _, rfl, b1, x', _, t5, t6, t7, t8, t9, t10, rfl, b2.mono (by omega)⟩) ⟨x, none, none, none, none, none, none, none, rfl, hx.mono (by omega)⟩
  rw [rng_len] at d1
  obtain ⟨al, x2, e2, d2, al3, har⟩ := ev_row_drawn d1 (by omega) 3 (by omega) LT (by decide +kernel) (by decide +kernel) (by decide +kernel)
  have c2 : callR (gdR 3 m__law_row_drawn) (consA (varD 0) (consA (conD (.int 3)) (consA (conD (.str "abcdefghijkl")) nilA))) (ET x1 N es kept s4 s5 s6 s7 s8 s9 s10) = some (.dat (.str al), ET x2 N es kept s4 s5 s6 s7 s8 s9 s10) :=
    callR_at (F := m__law_row_drawn) (n := 3) (ds := [.int 3, .str LT]) (cons_at (f := conD (.int 3)) rfl (cons_at (f := conD (.str "abcdefghijkl")) (g := nilA) rfl rfl)) rfl e2
  obtain ⟨os, sr, pm⟩ := sorted_spots (es := es) (by omega)
  have ol := pm.length_eq
  have ew := ev_without hM (al := al) (by omega) har.let' sr pm
  obtain ⟨t3, t4, t5, lp⟩ := due_loop hM (al := al) (by omega) x2 kept s4 s5 s6 s7 s8 s9 s10 (some (.dat (mD N (os.map (cutE al))))) os [] none none none (fun x hx => pm.mem_iff.mp hx) ((pm.map spot).nodup_iff.mpr hM.nd) (by rw [List.length_nil]; omega)
  rw [List.nil_append] at lp
  have shc : Sh (mD N (os.map (cutE al))) 2000000 3 := sh_mD (by omega) (by rw [List.length_map]; omega) (cut_pieces al fun e he => hM.pieces e (pm.mem_iff.mp he))
  obtain ⟨bare, hb⟩ := shc.repr (by omega) (by omega)
  refine ⟨x2, [some (.own x2), some (.dat (mD N es)), some (.dat (.str (readT es))), some (.dat (.str kept)), s4, s5, s6, s7, s8, s9, s10, some (.dat (.str al)), some (.dat (mD N (os.map (cutE al)))), some (.dat (.dT (kvM (os.map (cutE al))))), t3, t4, t5, none], ?_, rfl, d2.mono (by omega)⟩
  unfold b__law_machine_right
  refine seq_at (ρ1 := ET x N es kept none none none none none none none) (par_dat (d := .str (readT es)) (e := .str kept) (callP1 (fz_dat rfl) (ev_law_reads hM (by omega))) (call1 (z := .dat (.str kept)) (var_dat (d := mD N es) rfl) rfl hk) rfl rfl) ?_
  refine seq_at (ρ1 := ET x N es kept none none none none none none none) (if_ff (or_ff' (tst_at (bin_at (z := .dat (.bl false)) (callP1 (z := .dat (.bl true)) (fz_dat rfl) (ev_is_machine hM)) rfl rfl rfl rfl)) (or_ff' (tst_ne (d := .str (readT es)) (callP1 (z := .dat (.str (readT es))) (fz_dat rfl) (ev_reads_of hM)) (var_dat rfl) (eq_str _)) (tst_ne (d := .str (sendT es)) (callP1 (z := .dat (.str (sendT es))) (fz_dat rfl) (ev_sends_of hM h.mails)) (callP1 (z := .dat (.str (sendT es))) (fz_dat rfl) (ev_law_sends hM h.mails)) (eq_str _)))) rfl) ?_
  refine seq_at (ρ1 := ET x1 N es kept s4 s5 s6 s7 s8 s9 s10) (for_at (is := rngL 0 4) (rng_at (w := 4) (f := conD (.int 4)) rfl (by omega)) lq) ?_
  refine seq_at (ρ1 := [some (.own x2), some (.dat (mD N es)), some (.dat (.str (readT es))), some (.dat (.str kept)), s4, s5, s6, s7, s8, s9, s10, some (.dat (.str al)), none, none, none, none, none, none]) (set_dat c2 rfl) ?_
  refine seq_at (ρ1 := [some (.own x2), some (.dat (mD N es)), some (.dat (.str (readT es))), some (.dat (.str kept)), s4, s5, s6, s7, s8, s9, s10, some (.dat (.str al)), some (.dat (mD N (os.map (cutE al)))), none, none, none, none, none]) (set_dat (callP2 (z := .dat (mD N (os.map (cutE al)))) (fz_dat rfl) (fz_dat (d := .str al) rfl) ew) rfl) ?_
  refine seq_at (ρ1 := EDu x2 N es kept s4 s5 s6 s7 s8 s9 s10 al (some (.dat (mD N (os.map (cutE al))))) [] none none none) (set_own (y := .mT []) rfl rfl) ?_
  refine seq_at (for_at (is := os.map spotD) (any_at (fz_own (y := .ml (os.map spotD)) (call1 (z := .own (.ml (os.map spotD))) (ixM1 rfl) rfl sr)) rfl) lp) ?_
  refine ret_dat (and_tt (bin_at (z := .dat (.bl true)) (d := .str bare) (e := .str bare) (call1 (z := .dat (.str bare)) (var_dat (d := mD N (os.map (cutE al))) rfl) rfl hb) (call1 (z := .dat (.str bare)) (d := mD N (os.map (cutE al))) (r := .dat (mD N (os.map (cutE al)))) (tup2' (ρ2 := [some (.own x2), some (.dat (mD N es)), some (.dat (.str (readT es))), some (.dat (.str kept)), s4, s5, s6, s7, s8, s9, s10, some (.dat (.str al)), some (.dat (mD N (os.map (cutE al)))), some (.dat (.dT (kvM (os.map (cutE al))))), t3, t4, t5, none]) (ixM0 rfl) rfl) rfl hb) rfl rfl ?_) ?_)
  · show (eqX (.str bare) (.str bare)).map _ = _
    rw [eq_str]
    rfl
  · exact bin_at (z := .dat (.bl true)) (d := .str kept) (e := .str kept) (call1 (z := .dat (.str kept)) (var_dat (d := mD N es) rfl) rfl hk) (var_dat rfl) rfl rfl (by
      show (eqX (.str kept) (.str kept)).map _ = _
      rw [eq_str]
      rfl)
end KA

/-! MR: the law's cells. -/
namespace KA
open DL L2 PySem PySem.Spec PyProof.Rows LawT

abbrev EX (ns : List Int) (s1 s2 s3 s4 s5 s6 s7 s8 : Option SV) : EnvD := [some (.dat (.scr ns)), s1, s2, s3, s4, s5, s6, s7, s8, none]
abbrev readsL : List Str := ["", "a", "ab", "bcd", "acegikl", "abcdefgh"]
theorem reads_ok : ∀ r ∈ readsL, Reads' r := fun r hr => by
  simp only [List.mem_cons, List.not_mem_nil, or_false] at hr
  rcases hr with rfl | rfl | rfl | rfl | rfl | rfl <;> exact ⟨by decide +kernel, by decide +kernel, by decide +kernel⟩
theorem snd_ok : Snd "abckl" := ⟨by decide +kernel, by decide +kernel, by decide +kernel⟩
def pickR : FE := callR (gdR 2 m__law_pick) (consA (varD 2) (consA (fzD [] (lstF (consA (conD (.str "")) (consA (conD (.str "a")) (consA (conD (.str "ab")) (consA (conD (.str "bcd")) (consA (conD (.str "acegikl")) (consA (conD (.str "abcdefgh")) nilA)))))))) nilA))
def anyR : FE := callR (gdR 4 m__law_any_machine) (consA (varD 2) (consA (fzD [] (varD 4)) (consA (conD (.str "abckl")) (consA (conD (.int 3)) nilA))))
def turnW : FS := seqF (setF [] 4 pickR) (ifS (notT (tstF (callR (gdR 2 m__law_machine_right) (consA (varD 2) (consA anyR nilA))))) (retF (conD (.bl false))) nextF)
theorem ev_turnW {n : Nat} {x : OV} (h : Dice n x) (hn : n < 2 ^ 57) (ns : List Int) (s1 s3 s4 s5 s6 s7 s8 : Option SV) : ∃ x' s4', turnW (EX ns s1 (some (.own x)) s3 s4 s5 s6 s7 s8) = some (.next, EX ns s1 (some (.own x')) s3 s4' s5 s6 s7 s8) ∧ Dice (n + 7000) x' := by
  have q57 : (2 : Nat) ^ 57 + 10000 < 2 ^ 58 := by decide
  have q58 : (2 : Nat) ^ 58 + 10000 < 2 ^ 60 := by decide
  have q60 : (2 : Nat) ^ 60 < 2 ^ 100 := by decide
  obtain ⟨d, x1, hd, e1, d1⟩ := ev_pick_list h (by omega) (readsL.map D.str) (by simp) (by simp)
  obtain ⟨r, hr, rfl⟩ := List.mem_map.mp hd
  obtain ⟨N, es, x2, e2, h2, d2⟩ := ev_any d1 (by omega) (reads_ok r hr) snd_ok
  obtain ⟨x3, e3, d3⟩ := ev_machine_right d2 (by omega) h2
  have c1 : pickR (EX ns s1 (some (.own x)) s3 s4 s5 s6 s7 s8) = some (.dat (.str r), EX ns s1 (some (.own x1)) s3 s4 s5 s6 s7 s8) :=
    callR_j (F := m__law_pick) (n := 2) (j := 2) (ρ := EX ns s1 (some (.own x)) s3 s4 s5 s6 s7 s8) (ds := [.lst (readsL.map D.str)]) rfl (cons_at (f := fzD [] (lstF (consA (conD (.str "")) (consA (conD (.str "a")) (consA (conD (.str "ab")) (consA (conD (.str "bcd")) (consA (conD (.str "acegikl")) (consA (conD (.str "abcdefgh")) nilA)))))))) (g := nilA) (r := .dat (.lst (readsL.map D.str))) (ρ2 := EX ns s1 (some (.own x)) s3 s4 s5 s6 s7 s8) rfl rfl) rfl rfl e1
  have c2 : anyR (EX ns s1 (some (.own x1)) s3 (some (.dat (.str r))) s5 s6 s7 s8) = some (.dat (mD N es), EX ns s1 (some (.own x2)) s3 (some (.dat (.str r))) s5 s6 s7 s8) :=
    callR_j (F := m__law_any_machine) (n := 4) (j := 2) (ρ := EX ns s1 (some (.own x1)) s3 (some (.dat (.str r))) s5 s6 s7 s8) (ds := [.str r, .str "abckl", .int 3]) rfl (cons_at (f := fzD [] (varD 4)) rfl (cons_at (f := conD (.str "abckl")) rfl (cons_at (f := conD (.int 3)) (g := nilA) rfl rfl))) rfl rfl e2
  have c3 := callR_j (F := m__law_machine_right) (n := 2) (j := 2) (ρ := EX ns s1 (some (.own x1)) s3 (some (.dat (.str r))) s5 s6 s7 s8) (ds := [mD N es]) rfl (cons_at (g := nilA) c2 rfl) rfl rfl e3
  refine ⟨x3, some (.dat (.str r)), ?_, d3.mono (by omega)⟩
  unfold turnW
  exact seq_at (set_dat c1 rfl) (if_ff (not_ff (tst_at c3)) rfl)
def cellW : FS := seqF (setF [] 2 (callP (gdP 2 m__law_dice) (consA (fzD [] (varD 0)) (consA (fzD [] (varD 1)) nilA)))) (forF [] [3] (rng1I (consA (conD (.int 3)) nilA)) (nameG 3) turnW)
theorem ev_cellW (ns : List Int) (i : Nat) (hi : i < 3) (s2 s3 s4 s5 s6 s7 s8 : Option SV) : ∃ s2' s3' s4', cellW (EX ns (some (.dat (.int i))) s2 s3 s4 s5 s6 s7 s8) = some (.next, EX ns (some (.dat (.int i))) s2' s3' s4' s5 s6 s7 s8) := by
  obtain ⟨x, e1, d1⟩ := ev_dice ns i hi
  have t1 : setF [] 2 (callP (gdP 2 m__law_dice) (consA (fzD [] (varD 0)) (consA (fzD [] (varD 1)) nilA))) (EX ns (some (.dat (.int i))) s2 s3 s4 s5 s6 s7 s8) = some (.next, EX ns (some (.dat (.int i))) (some (.own x)) s3 s4 s5 s6 s7 s8) := set_own (callP2 (z := .own x) (fz_dat rfl) (fz_dat rfl) e1) rfl
  obtain ⟨ρ', hl, x', s3', s4', rfl, d2⟩ := loop_cnt (R := []) (vs := [3]) (g := nameG 3) (body := turnW) (fun j ρ => ∃ x s3 s4, ρ = EX ns (some (.dat (.int i))) (some (.own x)) s3 s4 s5 s6 s7 s8 ∧ Dice (7000 * j) x) (by simp) (rngL 0 3) 0 (EX ns (some (.dat (.int i))) (some (.own x)) s3 s4 s5 s6 s7 s8) (fun d _ j hj ρ ⟨x, s3, s4, hρ, hx⟩ => by
    have l3 : (rngL 0 3).length = 3 := rfl
    rw [l3] at hj
    have q57 : (100000 : Nat) < 2 ^ 57 := by decide
    subst hρ
    obtain ⟨x', s4', ht, dt⟩ := ev_turnW hx (by omega) ns (some (.dat (.int i))) (some (.dat d)) s4 s5 s6 s7 s8
    exact ⟨_, _, rfl, ht, x', _, s4', rfl, dt.mono (by omega)⟩) ⟨x, s3, s4, rfl, d1⟩
  have t2 := for_at (R := []) (vs := [3]) (g := nameG 3) (b := turnW) (fi := rng1I (consA (conD (.int 3)) nilA)) (ρ := EX ns (some (.dat (.int i))) (some (.own x)) s3 s4 s5 s6 s7 s8) (is := rngL 0 3) rfl hl
  exact ⟨some (.own x'), s3', s4', seq_at t1 t2⟩
theorem ev_cells (ns : List Int) : ∃ s1 s2 s3 s4, forF [] [1] (rng1I (consA (callF (consA (conD (.int 1)) (consA (callF (consA (conD (.int 3)) (consA (callF (consA (varD 0) nilA) lenS) nilA)) minF) nilA)) maxF) nilA)) (nameG 1) cellW (EX ns none none none none none none none none) = some (.next, EX ns s1 s2 s3 s4 none none none none) := by
  have lf : lenS [.scr ns] = some (.dat (.int ns.length)) := rfl
  obtain ⟨n1, n2, n3⟩ := len_min ns.length
  have fi : rng1I (consA (callF (consA (conD (.int 1)) (consA (callF (consA (conD (.int 3)) (consA (callF (consA (varD 0) nilA) lenS) nilA)) minF) nilA)) maxF) nilA) (EX ns none none none none none none none none) = some (rngL 0 (if (if (ns.length : Int) < 3 then (ns.length : Int) else 3) > 1 then (if (ns.length : Int) < 3 then (ns.length : Int) else 3) else 1).toNat, EX ns none none none none none none none none) := by
    have a1 := cons_at (f := conD (.int 3)) (ρ := EX ns none none none none none none none none) rfl (cons_at (g := nilA) (call1 (f := varD 0) rfl rfl lf) rfl)
    have a2 : callF (consA (conD (.int 3)) (consA (callF (consA (varD 0) nilA) lenS) nilA)) minF (EX ns none none none none none none none none) = some (.dat (.int (if (ns.length : Int) < 3 then (ns.length : Int) else 3)), EX ns none none none none none none none none) := by
      simp only [callF] at a1 ⊢
      simp only [a1, Option.bind_some, rds, rd, SV.r, minF]
    have a3 := cons_at (f := conD (.int 1)) (ρ := EX ns none none none none none none none none) rfl (cons_at (g := nilA) a2 rfl)
    have a4 : callF (consA (conD (.int 1)) (consA (callF (consA (conD (.int 3)) (consA (callF (consA (varD 0) nilA) lenS) nilA)) minF) nilA)) maxF (EX ns none none none none none none none none) = some (.dat (.int (if (if (ns.length : Int) < 3 then (ns.length : Int) else 3) > 1 then (if (ns.length : Int) < 3 then (ns.length : Int) else 3) else 1)), EX ns none none none none none none none none) := by
      generalize callF (consA (conD (.int 3)) (consA (callF (consA (varD 0) nilA) lenS) nilA)) minF = g at a3 ⊢
      simp only [callF, a3, Option.bind_some, rds, rd, SV.r, maxF]
    unfold rng1I
    rw [cons_at (g := nilA) a4 rfl, Option.bind_some]
    show (if _ then _ else _) = _
    rw [if_pos ⟨n2, n3⟩]
  obtain ⟨ρ', hl, s1, s2, s3, s4, rfl⟩ := loop_all (R := []) (vs := [1]) (g := nameG 1) (body := cellW) (fun ρ => ∃ s1 s2 s3 s4, ρ = EX ns s1 s2 s3 s4 none none none none) (by simp) (rngL 0 (if (if (ns.length : Int) < 3 then (ns.length : Int) else 3) > 1 then (if (ns.length : Int) < 3 then (ns.length : Int) else 3) else 1).toNat) (EX ns none none none none none none none none) (fun d hd ρ ⟨s1, s2, s3, s4, hρ⟩ => by
    obtain ⟨i, rfl, hi⟩ := rng_mem hd
    subst hρ
    obtain ⟨s2', s3', s4', h⟩ := ev_cellW ns i (by omega) s2 s3 s4 none none none none
    exact ⟨_, _, rfl, h, some (.dat (.int i)), s2', s3', s4', rfl⟩) ⟨none, none, none, none, rfl⟩
  exact ⟨s1, s2, s3, s4, for_at (R := []) (vs := [1]) (g := nameG 1) (b := cellW) fi hl⟩
end KA

/-! MS: a machine without letters; a ring of places. -/
namespace KA
open DL L2 PySem PySem.Spec PyProof.Rows LawT

abbrev zM : D := .tup [.int 7, .dK []]
theorem z_mach : m_is_machine [zM] = some (.dat (.bl true)) := by rfl
theorem z_req : m_require_machine [zM] = some (.dat .non) := by
  have e : m_require_machine [zM] = (b_require_machine [some (.dat zM)]).bind fin := rfl
  have main : b_require_machine [some (.dat zM)] = some (.next, [some (.dat zM)]) := by
    unfold b_require_machine
    exact if_ff (not_ff (tst_at (callP1 (fz_dat rfl) z_mach))) rfl
  rw [e, main]
  rfl
theorem sort_nil : sortS [] = [] := List.mergeSort_nil
theorem z_in : m_reads_in [zM] = some (.dat (.str "")) := by
  have e : m_reads_in [zM] = (b_reads_in [some (.dat zM), none, none]).bind fin := rfl
  have main : b_reads_in [some (.dat zM), none, none] = some (.ret (.dat (.str (Txt.join "" (sortS (dedupS (([] : List E4).map fun e => e.r)))))), [some (.dat zM), none, none]) := by
    unfold b_reads_in
    refine ret_dat (me_join (call1 (sc_at spotD (fun e => e.r) ([] : List E4) (any_at (bin_at (z := .dat (.dK [])) (var_dat rfl) rfl rfl rfl rfl) rfl) rfl fun e he => nomatch he) rfl (sort_sS _ (by simp [dedupS]))) ?_)
    rw [show sortS (dedupS (([] : List E4).map fun e => e.r)) = [] from sort_nil]
    exact Nat.zero_le _
  rw [e, main, show sortS (dedupS (([] : List E4).map fun e => e.r)) = [] from sort_nil, show Txt.join "" [] = "" from cat_nil]
  rfl
theorem row_nil : Row "" := ⟨by decide +kernel, by decide +kernel⟩
theorem tal_nil : canon (tal "") = [] := by decide +kernel
theorem z_walked : m_walked [zM, .int 6, .str ""] = some (.dat (.tup [.int 6, .dK []])) := by
  have e : m_walked [zM, .int 6, .str ""] = (b_walked [some (.dat zM), some (.dat (.int 6)), some (.dat (.str "")), none, none, none, none]).bind fin := rfl
  have ct := ev_counts_in row_nil
  rw [tal_nil] at ct
  have main : b_walked [some (.dat zM), some (.dat (.int 6)), some (.dat (.str "")), none, none, none, none] = some (.ret (.dat (.tup [.int 6, .dK []])), [some (.dat zM), some (.dat (.int 6)), some (.dat (.str "")), some (.dat (.int 6)), some (.own (.ml [])), none, none]) := by
    unfold b_walked
    refine seq_at (ρ1 := [some (.dat zM), some (.dat (.int 6)), some (.dat (.str "")), some (.dat (.int 6)), some (.own (.ml [])), none, none]) rfl ?_
    refine seq_at (for_at (is := []) (ρ1 := [some (.dat zM), some (.dat (.int 6)), some (.dat (.str "")), some (.dat (.int 6)), some (.own (.ml [])), none, none]) rfl rfl) ?_
    have jm : meF "str" (conD (.str "")) (consA (varD 4) nilA) joinM [some (.dat zM), some (.dat (.int 6)), some (.dat (.str "")), some (.dat (.int 6)), some (.own (.ml [])), none, none] = some (.dat (.str ""), [some (.dat zM), some (.dat (.int 6)), some (.dat (.str "")), some (.dat (.int 6)), some (.own (.ml [])), none, none]) := by
      have j := join_ok [] (by simp)
      rw [show Txt.join "" [] = "" from cat_nil] at j
      simp only [meF, conD, Option.bind_some, rd, tyN, if_true, consA, nilA, varD, List.getElem?_cons_succ, List.getElem?_cons_zero, rds, OV.d, SV.r]
      rw [show joinM (.str "") [.lst []] = some (.dat (.str "")) from j]
      rfl
    exact ret_dat (tup2 (d := .int 6) (e := .dK []) (fz_dat rfl) (callP1 jm ct))
  rw [e, main]
  rfl
theorem z_row : m_require_read_row [zM, .str ""] = some (.dat .non) := by
  have e : m_require_read_row [zM, .str ""] = (b_require_read_row [some (.dat zM), some (.dat (.str "")), none, none]).bind fin := rfl
  have main : b_require_read_row [some (.dat zM), some (.dat (.str "")), none, none] = some (.next, [some (.dat zM), some (.dat (.str "")), some (.dat (.str "")), none]) := by
    unfold b_require_read_row
    refine seq_at (ex_call (callP1 (d := .str "") (fz_dat rfl) (ev_req_row "" (by decide +kernel) (by decide +kernel)))) (seq_at (ρ1 := [some (.dat zM), some (.dat (.str "")), some (.dat (.str "")), none]) (set_dat (callP1 (fz_dat rfl) z_in) rfl) ?_)
    exact for_at (is := []) rfl rfl
  rw [e, main]
  rfl
theorem z_walk : m_walk [zM, .int 6, .str ""] = some (.dat (.tup [.int 6, .dK []])) := by
  have e : m_walk [zM, .int 6, .str ""] = (b_walk [some (.dat zM), some (.dat (.int 6)), some (.dat (.str ""))]).bind fin := rfl
  have pl : m_require_number [.int 6, .int 0, .int 6] = some (.dat .non) := ev_req_place (p := 6) (n := 7) (by omega) (by omega)
  have main : b_walk [some (.dat zM), some (.dat (.int 6)), some (.dat (.str ""))] = some (.ret (.dat (.tup [.int 6, .dK []])), [some (.dat zM), some (.dat (.int 6)), some (.dat (.str ""))]) := by
    unfold b_walk
    refine seq_at (ex_call (callP1 (fz_dat rfl) z_req)) (seq_at (ex_call (callP3 (d := .int 6) (e := .int 0) (i := .int 6) (fz_dat rfl) rfl (bin_at (z := .dat (.int 6)) (bin_at (z := .dat (.int 7)) (var_dat rfl) rfl rfl rfl rfl) rfl rfl rfl rfl) pl)) (seq_at (ex_call (callP2 (fz_dat rfl) (fz_dat rfl) z_row)) ?_))
    exact ret_dat (callP3 (fz_dat rfl) (fz_dat rfl) (fz_dat rfl) z_walked)
  rw [e, main]
  rfl
theorem z_reads : m_reads_of [zM] = some (.dat (.str "")) := by
  have e : m_reads_of [zM] = (b_reads_of [some (.dat zM)]).bind fin := rfl
  have main : b_reads_of [some (.dat zM)] = some (.ret (.dat (.str "")), [some (.dat zM)]) := by
    unfold b_reads_of
    exact seq_at (ex_call (callP1 (fz_dat rfl) z_req)) (ret_dat (callP1 (fz_dat rfl) z_in))
  rw [e, main]
  rfl
/-- the ring: at letter b from place to place -/
def ringE (N : Nat) (i : Nat) : E4 := ⟨i, "b", (i + 1) % N, ""⟩
def ring (N : Nat) : List E4 := (List.range N).map (ringE N)
theorem ring_spots (N : Nat) : (ring N).map spot = (List.range N).map fun i => (i, ("b" : Str)) := by
  unfold ring
  rw [List.map_map]
  rfl
theorem ring_nd (N : Nat) : ((ring N).map spot).Nodup := by
  rw [ring_spots]
  exact List.pairwise_map.mpr (List.nodup_range.imp fun ne e => ne (Prod.mk.inj e).1)
theorem ring_in (N : Nat) (p : Nat) (r : Str) : (p, r) ∈ (ring N).map spot ↔ p < N ∧ r ∈ [("b" : Str)] := by
  rw [ring_spots, List.mem_map, List.mem_singleton]
  constructor
  · rintro ⟨i, hi, e⟩
    obtain ⟨rfl, rfl⟩ := Prod.mk.inj e
    exact ⟨List.mem_range.mp hi, rfl⟩
  · rintro ⟨h, rfl⟩
    exact ⟨p, List.mem_range.mpr h, rfl⟩
theorem pairs_ring : ∀ es : List E4, pairsT (es.map fun e => .tup [spotD e, goal e]) = some (kvM es)
  | [] => rfl
  | e :: es => by
    show ((some (key e)).bind fun k => (pairsT (es.map fun e => .tup [spotD e, goal e])).bind fun q => some ((k, goal e) :: q)) = _
    rw [pairs_ring es]
    rfl
theorem dict_ring {es : List E4} (nd : (es.map spot).Nodup) (hl : es.length ≤ 100000) : dictF true [.lst (es.map fun e => .tup [spotD e, goal e])] = some (.own (.mT (kvM es))) := by
  show (if _ then _ else _) = _
  rw [if_pos (by rw [List.length_map, sizeLine_eq]; omega), if_pos rfl, pairs_ring es, Option.map_some, merge_fresh (kvM es) [] (keys_nd nd)]
  rfl
/-- the ring as the law writes it -/
theorem ring_at (ns : List Int) (s1 s2 s3 s4 s5 s6 s7 s8 : Option SV) {N : Nat} (h0 : 0 < N) (hN : N ≤ 2000) : callF (consA (lcF [9] (rng1I (consA (conD (.int (N : Int))) nilA)) (nameG 9) yesT (tupF (consA (tupF (consA (fzD [] (varD 9)) (consA (conD (.str "b")) nilA))) (consA (tupF (consA (bin2 (callF (consA (bin2 (varD 9) (conD (.int 1)) addD) nilA) intF) (conD (.int (N : Int))) modD) (consA (conD (.str "")) nilA))) nilA)))) nilA) (dictF true) (EX ns s1 s2 s3 s4 s5 s6 s7 s8) = some (.own (.mT (kvM (ring N))), EX ns s1 s2 s3 s4 s5 s6 s7 s8) := by
  have md (i : Nat) : (((i : Int) + 1) % (N : Int)) = (((i + 1) % N : Nat) : Int) := by rw [Int.natCast_emod, Int.natCast_add]; rfl
  have lc := lc_map (vs := [9]) (fi := rng1I (consA (conD (.int (N : Int))) nilA)) (g := nameG 9) (f := tupF (consA (tupF (consA (fzD [] (varD 9)) (consA (conD (.str "b")) nilA))) (consA (tupF (consA (bin2 (callF (consA (bin2 (varD 9) (conD (.int 1)) addD) nilA) intF) (conD (.int (N : Int))) modD) (consA (conD (.str "")) nilA))) nilA))) (ρ := EX ns s1 s2 s3 s4 s5 s6 s7 s8) (fun i : Nat => D.int (i : Int)) (fun i => .tup [spotD (ringE N i), goal (ringE N i)]) (List.range N) (by
    rw [rng_at (w := N) (f := conD (.int (N : Int))) rfl (by omega)]
    simp [rngL]) rfl (by rw [List.length_range, sizeLine_eq]; omega) (fun i hi => by
    refine ⟨[some (.dat (.scr ns)), s1, s2, s3, s4, s5, s6, s7, s8, some (.dat (.int (i : Int)))], rfl, rfl, ?_⟩
    refine tup2 (tup2 (fz_dat rfl) rfl) (tup2 (d := .int (((i + 1) % N : Nat) : Int)) (e := .str "") ?_ rfl)
    rw [← md]
    exact bin_at (z := .dat (.int (((i : Int) + 1) % (N : Int)))) (call1 (z := .dat (.int ((i : Int) + 1))) (bin_at (z := .dat (.int ((i : Int) + 1))) (var_dat rfl) rfl rfl rfl rfl) rfl rfl) rfl rfl rfl (mod_ok (by omega)))
  have em : (List.range N).map (fun i => D.tup [spotD (ringE N i), goal (ringE N i)]) = (ring N).map fun e => .tup [spotD e, goal e] := by
    unfold ring
    rw [List.map_map]
    rfl
  rw [em] at lc
  exact call1 (z := .own (.mT (kvM (ring N)))) lc rfl (dict_ring (ring_nd N) (by unfold ring; rw [List.length_map, List.length_range]; omega))
end KA

/-! MT: walks round the ring. -/
namespace KA
open DL L2 PySem PySem.Spec PyProof.Rows LawT

theorem sg_rep (c n : Nat) : sg (repS ⟨#[c]⟩ n) = List.replicate n (⟨#[c]⟩ : Str) := by
  show (repS ⟨#[c]⟩ n).cps.toList.map _ = _
  rw [rep_tl, List.map_replicate]
theorem ch_a : ("a" : Str) = ⟨#[97]⟩ := by decide +kernel
theorem ch_b : ("b" : Str) = ⟨#[98]⟩ := by decide +kernel
theorem ch_l : ("l" : Str) = ⟨#[108]⟩ := by decide +kernel
theorem sg_rep_a (n : Nat) : sg (repS "a" n) = List.replicate n ("a" : Str) := by rw [ch_a]; exact sg_rep 97 n
theorem sg_rep_b (n : Nat) : sg (repS "b" n) = List.replicate n ("b" : Str) := by rw [ch_b]; exact sg_rep 98 n
theorem sg_rep_l (n : Nat) : sg (repS "l" n) = List.replicate n ("l" : Str) := by rw [ch_l]; exact sg_rep 108 n
theorem len_rep_a (n : Nat) : (repS "a" n).length = n := by rw [← len_sg, sg_rep_a, List.length_replicate]
theorem len_rep_b (n : Nat) : (repS "b" n).length = n := by rw [← len_sg, sg_rep_b, List.length_replicate]
theorem len_rep_l (n : Nat) : (repS "l" n).length = n := by rw [← len_sg, sg_rep_l, List.length_replicate]
theorem mul_str {x : Str} {k : Nat} (h : x.length * k ≤ 1000000) (hk : k ≤ 1000000) : mulD (.str x) (.int (k : Int)) = some (.dat (.str (repS x k))) := by
  have q : (1000000 : Int) < 2 ^ 62 := by decide
  have c : (k : Int) < 2 ^ 62 ∧ x.length * k ≤ sizeLine ∧ -(2 ^ 62) < (k : Int) := ⟨by omega, by rw [sizeLine_eq]; omega, by omega⟩
  simp only [mulD, Int.toNat_natCast]
  exact if_pos c
def big : Str := repS "a" 150 ++ repS "l" 50
theorem sg_big : sg big = List.replicate 150 ("a" : Str) ++ List.replicate 50 ("l" : Str) := by
  unfold big
  rw [sg_app, sg_rep_a, sg_rep_l]
theorem len_big : big.length = 200 := by
  rw [← len_sg, sg_big, List.length_append, List.length_replicate, List.length_replicate]
theorem big_in {s : Str} (h : s ∈ sg big) : s = "a" ∨ s = "l" := by
  rw [sg_big, List.mem_append] at h
  rcases h with h | h
  · exact .inl (List.eq_of_mem_replicate h)
  · exact .inr (List.eq_of_mem_replicate h)
theorem big_mail : Mail big := by
  refine ⟨fun s hs => ?_, ?_, Nat.le_of_eq len_big⟩
  · rcases big_in hs with rfl | rfl <;> decide +kernel
  · rw [sg_big, List.pairwise_append]
    refine ⟨List.pairwise_replicate.mpr (.inr (by decide +kernel)), List.pairwise_replicate.mpr (.inr (by decide +kernel)), fun a ha b hb => ?_⟩
    rw [List.eq_of_mem_replicate ha, List.eq_of_mem_replicate hb]
    decide +kernel
def wideX (N : Nat) (t : Str) (i : Nat) : E4 := ⟨i, "b", (i + 1) % N, if i + 1 = N then t else ""⟩
def wideE (N : Nat) (t : Str) : List E4 := (List.range N).map (wideX N t)
theorem put_wide {N : Nat} (h : 0 < N) (t : Str) : putE (ring N) ⟨N - 1, "b", 0, t⟩ = wideE N t := by
  have m : spot ⟨N - 1, "b", 0, t⟩ ∈ (ring N).map spot := (ring_in N (N - 1) "b").mpr ⟨by omega, List.mem_singleton_self _⟩
  unfold putE
  rw [if_pos m]
  unfold ring wideE
  rw [List.map_map]
  refine List.map_congr_left fun i hi => ?_
  have hi := List.mem_range.mp hi
  show (if spot (ringE N i) = _ then _ else _) = _
  by_cases z : i + 1 = N
  · have e : i = N - 1 := by omega
    rw [if_pos (by show ((i, _) : Nat × Str) = (N - 1, _); rw [e]; rfl)]
    show _ = (⟨i, "b", (i + 1) % N, if i + 1 = N then t else ""⟩ : E4)
    rw [if_pos z, z, Nat.mod_self, e]
  · rw [if_neg (fun q => z (by have : i = N - 1 := (Prod.mk.inj q).1; omega))]
    show (⟨i, "b", (i + 1) % N, ""⟩ : E4) = ⟨i, "b", (i + 1) % N, if i + 1 = N then t else ""⟩
    rw [if_neg z]
theorem nil_mail : Mail "" := ⟨by decide +kernel, by decide +kernel, by decide +kernel⟩
theorem wide_mach {N : Nat} (h : 0 < N) (hN : N ≤ 2000) {t : Str} (ht : Mail t) : Mach N ["b"] (wideE N t) := by
  have sp : (wideE N t).map spot = (ring N).map spot := by
    unfold ring wideE
    rw [List.map_map, List.map_map]
    rfl
  refine ⟨h, hN, by decide +kernel, by decide +kernel, by decide +kernel, sp ▸ ring_nd N, fun p r => sp ▸ ring_in N p r, fun e he => ?_⟩
  obtain ⟨i, hi, rfl⟩ := List.mem_map.mp he
  refine ⟨Nat.mod_lt _ h, ?_⟩
  show Mail (if i + 1 = N then t else "")
  split
  · exact ht
  · exact nil_mail
theorem cat_empty : ∀ ss : List Str, (∀ s ∈ ss, s = "") → cat ss = ""
  | [], _ => cat_nil
  | s :: ss, h => by rw [cat_cons, h s List.mem_cons_self, nil_app', cat_empty ss fun x hx => h x (List.mem_cons_of_mem _ hx)]
theorem mails_wide {N : Nat} (h : 0 < N) (t : Str) : mails (wideE N t) = t := by
  obtain ⟨M, rfl⟩ : ∃ M, N = M + 1 := ⟨N - 1, by omega⟩
  unfold mails wideE
  rw [List.range_succ, List.map_append, List.map_append, cat_app, cat_empty]
  · show "" ++ cat [if M + 1 = M + 1 then t else ""] = t
    rw [if_pos rfl, nil_app', cat_cons, cat_nil, app_nil']
  · intro s hs
    obtain ⟨e, he, rfl⟩ := List.mem_map.mp hs
    obtain ⟨i, hi, rfl⟩ := List.mem_map.mp he
    have := List.mem_range.mp hi
    show (if i + 1 = M + 1 then t else "") = ""
    rw [if_neg (by omega)]
theorem look_wide {N : Nat} (h : 0 < N) (hN : N ≤ 2000) {t : Str} (ht : Mail t) {p : Nat} (hp : p < N) : look (wideE N t) p "b" = some (wideX N t p) := by
  obtain ⟨e, he, hp', _, hk⟩ := (wide_mach h hN ht).look hp (List.mem_singleton_self _)
  obtain ⟨i, hi, rfl⟩ := List.mem_map.mp he
  have : i = p := hp'
  rw [hk, this]
theorem go_wide {N : Nat} (h : 0 < N) (hN : N ≤ 2000) {t : Str} (ht : Mail t) : ∀ (k p : Nat), p < N → (go (wideE N t) p (List.replicate k "b")).1 = (p + k) % N ∧ cat (go (wideE N t) p (List.replicate k "b")).2 = cat (List.replicate ((p + k) / N) t)
  | 0, p, hp => by
    show p = (p + 0) % N ∧ cat [] = cat (List.replicate ((p + 0) / N) t)
    rw [Nat.add_zero, Nat.mod_eq_of_lt hp, Nat.div_eq_of_lt hp]
    exact ⟨rfl, rfl⟩
  | k + 1, p, hp => by
    rw [List.replicate_succ, go_cons (n := N) (rs := ["b"]) (look_wide h hN ht hp)]
    show (go (wideE N t) ((p + 1) % N) (List.replicate k "b")).1 = _ ∧ cat ((if p + 1 = N then t else "") :: (go (wideE N t) ((p + 1) % N) (List.replicate k "b")).2) = _
    rw [cat_cons]
    by_cases z : p + 1 = N
    · obtain ⟨i1, i2⟩ := go_wide h hN ht k 0 h
      rw [if_pos z, z, Nat.mod_self, i1, i2, Nat.zero_add, show p + (k + 1) = N + k by omega, Nat.add_mod_left, Nat.add_div_left k h, List.replicate_succ, cat_cons]
      exact ⟨rfl, rfl⟩
    · obtain ⟨i1, i2⟩ := go_wide h hN ht k (p + 1) (by omega)
      rw [if_neg z, Nat.mod_eq_of_lt (show p + 1 < N by omega), i1, i2, nil_app', show p + (k + 1) = p + 1 + k by omega]
      exact ⟨rfl, rfl⟩
theorem tal_rep (t k : Str) : ∀ q : Nat, tal (cat (List.replicate q t)) k = q * tal t k
  | 0 => by rw [List.replicate_zero, cat_nil, Int.natCast_zero, Int.zero_mul]; show ((([] : List Str).count k : Nat) : Int) = 0; rfl
  | q + 1 => by rw [List.replicate_succ, cat_cons, tal_app, tal_rep t k q, Int.natCast_add, Int.add_mul, Int.add_comm]; simp
theorem tal_big : canon (tal (cat (List.replicate 4 big))) = ([("a", 600), ("l", 200)] : C) := by
  have e : canon (tal (cat (List.replicate 4 big))) = canon fun k => 4 * ((((if "a" = k then 150 else 0) + (if "l" = k then 50 else 0) : Nat)) : Int) := canon_congr fun k _ => by
    rw [tal_rep]
    unfold tal
    rw [sg_big, List.count_append, List.count_replicate, List.count_replicate]
    simp only [beq_iff_eq]
    rfl
  rw [e]
  decide +kernel
def wide : D := mD 2000 (wideE 2000 big)
theorem wide_ok : Mach 2000 ["b"] (wideE 2000 big) := wide_mach (by omega) (by omega) big_mail
theorem wide_walk : m_walk [wide, .int 3, .str (repS "b" 9000)] = some (.dat (.tup [.int 1003, dC [("a", 600), ("l", 200)]])) := by
  obtain ⟨g1, g2⟩ := go_wide (N := 2000) (by omega) (by omega) big_mail 9000 3 (by omega)
  have s := sg_rep_b 9000
  have w := ev_walk wide_ok (p := 3) (by omega) (row := repS "b" 9000) (fun l hl => by rw [s] at hl; rw [List.eq_of_mem_replicate hl]; exact List.mem_singleton_self _) (by rw [len_rep_b]; omega) (by
    rw [s, g2, len_cat, show (3 + 9000) / 2000 = 4 from rfl, List.map_replicate, len_big]
    decide +kernel)
  unfold KA.told at w
  rw [s, g1, g2, show (3 + 9000) / 2000 = 4 from rfl, show (3 + 9000) % 2000 = 1003 from rfl, tal_big] at w
  exact w
end KA

/-! MU: the law k04. -/
namespace KA
open DL L2 PySem PySem.Spec PyProof.Rows LawT

theorem wide_reads : m_reads_of [wide] = some (.dat (.str "b")) := by
  have r := ev_reads_of wide_ok
  unfold readT at r
  rw [wide_ok.sorted] at r
  exact r.trans (by rw [show Txt.join "" (L.filter fun k => decide (k ∈ [("b" : Str)])) = "b" by decide +kernel])
theorem wide_sends : m_sends_of [wide] = some (.dat (.str "al")) := by
  have mw := mails_wide (N := 2000) (by omega) big
  have r := ev_sends_of wide_ok (by rw [mw, len_big]; omega)
  unfold sendT at r
  rw [mw, sort_keys (ks := dedupS (sg big)) (nd_dedup _ _ List.nodup_nil) (fun k hk => by
    have := (mem_dedup (sg big) [] k).mp hk
    rcases this with z | z
    · exact nomatch z
    · exact big_mail.let' k z)] at r
  have e : (L.filter fun k => decide (k ∈ dedupS (sg big))) = L.filter fun k : Str => decide (k = "a" ∨ k = "l") := by
    refine List.filter_congr fun k _ => decide_eq_decide.mpr ?_
    rw [show k ∈ dedupS (sg big) ↔ k ∈ ([] : List Str) ∨ k ∈ sg big from mem_dedup (sg big) [] k, sg_big, List.mem_append, List.mem_replicate, List.mem_replicate]
    simp
  rw [e] at r
  exact r.trans (by rw [show Txt.join "" (L.filter fun k : Str => decide (k = "a" ∨ k = "l")) = "al" by decide +kernel])
theorem Mach.cut {n : Nat} {rs : List Str} {es os : List E4} (h : Mach n rs es) (pm : os.Perm es) (al : Str) : Mach n rs (os.map (cutE al)) := by
  refine ⟨h.n0, h.n1, h.rL, h.rN, h.r8, by rw [cut_spots]; exact (pm.map spot).nodup_iff.mpr h.nd, fun p r => by rw [cut_spots, (pm.map spot).mem_iff]; exact h.mem p r, fun e he => ?_⟩
  obtain ⟨x, hx, rfl⟩ := List.mem_map.mp he
  have := h.ok x (pm.mem_iff.mp hx)
  exact ⟨this.1, keep_mail this.2 al⟩
theorem keep_big : keepT "al" big = "" := by
  have : (sg big).filter (fun z => !decide (z ∈ sg "al")) = [] := List.filter_eq_nil_iff.mpr fun z hz => by
    rcases big_in hz with rfl | rfl <;> decide +kernel
  unfold keepT
  rw [this]
  exact cat_nil
theorem wide_bare : ∃ d, m_without [wide, .str "al"] = some (.dat d) ∧ m_sends_of [d] = some (.dat (.str "")) := by
  have wl : (wideE 2000 big).length = 2000 := by unfold wideE; rw [List.length_map, List.length_range]
  obtain ⟨os, sr, pm⟩ := sorted_spots (es := wideE 2000 big) (by omega)
  have w := ev_without wide_ok (al := "al") (by decide +kernel) (by decide +kernel) sr pm
  have mc := wide_ok.cut pm "al"
  have em : mails (os.map (cutE "al")) = "" := cat_empty _ fun s hs => by
    obtain ⟨e, he, rfl⟩ := List.mem_map.mp hs
    obtain ⟨x, hx, rfl⟩ := List.mem_map.mp he
    obtain ⟨i, hi, rfl⟩ := List.mem_map.mp (pm.mem_iff.mp hx)
    show keepT "al" (if i + 1 = 2000 then big else "") = ""
    split
    · exact keep_big
    · decide +kernel
  refine ⟨_, w, ?_⟩
  have r := ev_sends_of mc (by rw [em]; decide +kernel)
  unfold sendT at r
  rw [em] at r
  exact r.trans (by rw [show dedupS (sg "") = [] from rfl, sort_nil, show Txt.join "" [] = "" from cat_nil])
abbrev flipE : List E4 := [⟨0, "a", 1, ""⟩, ⟨1, "a", 0, "b"⟩]
abbrev flipD : D := mD 2 flipE
theorem b_mail : Mail "b" := ⟨by decide +kernel, by decide +kernel, by decide +kernel⟩
theorem flip_ok : Mach 2 ["a"] flipE := by
  refine ⟨by omega, by omega, by decide +kernel, by decide +kernel, by decide +kernel, by decide +kernel, fun p r => ?_, fun e he => ?_⟩
  · show (p, r) ∈ [((0 : Nat), ("a" : Str)), (1, "a")] ↔ _
    rw [List.mem_cons, List.mem_singleton, List.mem_singleton]
    constructor
    · rintro (z | z)
      · obtain ⟨rfl, rfl⟩ := Prod.mk.inj z
        exact ⟨by omega, rfl⟩
      · obtain ⟨rfl, rfl⟩ := Prod.mk.inj z
        exact ⟨by omega, rfl⟩
    · rintro ⟨z, rfl⟩
      have : p = 0 ∨ p = 1 := by omega
      rcases this with rfl | rfl
      · exact .inl rfl
      · exact .inr rfl
  · rcases List.mem_cons.mp he with rfl | z
    · exact ⟨by decide, nil_mail⟩
    · rw [List.mem_singleton.mp z]
      exact ⟨by decide, b_mail⟩
theorem flip_walk0 : m_walk [flipD, .int 0, .str "aaa"] = some (.dat (.tup [.int 1, dC [("b", 1)]])) := by
  have w := ev_walk flip_ok (p := 0) (by omega) (row := "aaa") (by decide +kernel) (by decide +kernel) (by decide +kernel)
  unfold KA.told at w
  rw [show (go flipE 0 (sg "aaa")).1 = 1 by decide +kernel, show canon (tal (cat (go flipE 0 (sg "aaa")).2)) = ([("b", 1)] : C) by decide +kernel] at w
  exact w
theorem flip_walk1 : m_walk [flipD, .int 1, .str "a"] = some (.dat (.tup [.int 0, dC [("b", 1)]])) := by
  have w := ev_walk flip_ok (p := 1) (by omega) (row := "a") (by decide +kernel) (by decide +kernel) (by decide +kernel)
  unfold KA.told at w
  rw [show (go flipE 1 (sg "a")).1 = 0 by decide +kernel, show canon (tal (cat (go flipE 1 (sg "a")).2)) = ([("b", 1)] : C) by decide +kernel] at w
  exact w
theorem flip_step : m_step_of [flipD, .int 1, .str "a"] = some (.dat (.tup [.int 0, .str "b"])) := ev_step_of flip_ok (e := ⟨1, "a", 0, "b"⟩) (by simp)
theorem zip_all {f : D → D → Option Bool} : ∀ ds : List D, (∀ d ∈ ds, f d d = some true) → allO (List.zipWith f ds ds) = some true
  | [], _ => rfl
  | d :: ds, h => by
    rw [List.zipWith_cons_cons, allO, h d List.mem_cons_self, zip_all ds fun x hx => h x (List.mem_cons_of_mem _ hx)]
    rfl
theorem eqX_lst {ds : List D} (h : ∀ d ∈ ds, eqN 59 d d = some true) : eqX (.lst ds) (.lst ds) = some true := by
  show (if _ then _ else _) = _
  rw [if_pos rfl, zip_all ds h]
theorem eqN_tup {n : Nat} {ds : List D} (h : ∀ d ∈ ds, eqN n d d = some true) : eqN (n + 1) (.tup ds) (.tup ds) = some true := by
  show (allO _).map _ = _
  rw [zip_all ds h, Option.map_some]
  simp
theorem tst_eq {f g : FE} {ρ ρ1 ρ2 : EnvD} {d : D} {r q : RV} (h1 : f ρ = some (r, ρ1)) (h2 : g ρ1 = some (q, ρ2)) (h3 : rd ρ2 r = some d) (h4 : rd ρ2 q = some d) (h : eqX d d = some true) : tstF (bin2 f g (asB eqX true)) ρ = some (false, ρ2) :=
  tst_at (bin_at (z := .dat (.bl false)) h1 h2 h3 h4 (by show (eqX d d).map _ = _; rw [h]; rfl))

abbrev toldW : List D := [.str "b", .str "al", .str "", .str "", .tup [.int 6, .dK []]]
theorem eq_toldW : eqX (.lst toldW) (.lst toldW) = some true := eqX_lst fun d hd => by
  simp only [List.mem_cons, List.not_mem_nil, or_false] at hd
  rcases hd with rfl | rfl | rfl | rfl | rfl
  · exact eqN_str _ _
  · exact eqN_str _ _
  · exact eqN_str _ _
  · exact eqN_str _ _
  · exact eqN_tup (n := 58) fun d hd => by
      rcases List.mem_cons.mp hd with rfl | z
      · exact eqN_int _ _
      · rw [List.mem_singleton.mp z]
        exact eqN_dC (c := []) good_nil.toOk 57
abbrev flipL : List D := [.tup [.int 1, dC [("b", 1)]], .tup [.int 0, .str "b"], .tup [.int 0, dC [("b", 1)]]]
theorem eqN_num {i : Int} {c : C} (h : Ok c) : eqN 59 (.tup [.int i, dC c]) (.tup [.int i, dC c]) = some true := eqN_tup (n := 58) fun d hd => by
  rcases List.mem_cons.mp hd with rfl | z
  · exact eqN_int _ _
  · rw [List.mem_singleton.mp z]
    exact eqN_dC h 57
theorem eq_flipL : eqX (.lst flipL) (.lst flipL) = some true := eqX_lst fun d hd => by
  simp only [List.mem_cons, List.not_mem_nil, or_false] at hd
  rcases hd with rfl | rfl | rfl
  · exact eqN_num good_b.toOk
  · exact eqN_tup (n := 58) fun d hd => by
      rcases List.mem_cons.mp hd with rfl | z
      · exact eqN_int _ _
      · rw [List.mem_singleton.mp z]
        exact eqN_str _ _
  · exact eqN_num good_b.toOk
theorem ok_600 : Ok [("a", 600), ("l", 200)] := ok_dec (by decide +kernel) (by decide +kernel)
theorem eq_wide : eqX (.tup [.int 1003, dC [("a", 600), ("l", 200)]]) (.tup [.int 1003, dC [("a", 600), ("l", 200)]]) = some true := eqN_tup (n := 59) fun d hd => by
  rcases List.mem_cons.mp hd with rfl | z
  · exact eqN_int _ _
  · rw [List.mem_singleton.mp z]
    exact eqN_dC ok_600 58
theorem lst_at {g : FA} {ρ ρ1 : EnvD} {ds : List D} (h : g ρ = some (ds.map .dat, ρ1)) (hl : ds.length ≤ 1000) : lstF g ρ = some (.own (.ml ds), ρ1) := by
  simp only [lstF, h, Option.bind_some, datA_map]
  rw [if_pos (by rw [sizeLine_eq]; omega)]
theorem flip_at (ρ : EnvD) : fzD [] (dspTF (consPt (tupF (consA (conD (.int 0)) (consA (conD (.str "a")) nilA))) (tupF (consA (conD (.int 1)) (consA (conD (.str "")) nilA))) (consPt (tupF (consA (conD (.int 1)) (consA (conD (.str "a")) nilA))) (tupF (consA (conD (.int 0)) (consA (conD (.str "b")) nilA))) nilPt))) ρ = some (.dat (.dT (kvM flipE)), ρ) := by
  rfl
theorem law_true (ns : List Int) : m_law [.scr ns] = some (.dat (.bl true)) := by
  have e : m_law [.scr ns] = (b_law (EX ns none none none none none none none none)).bind fin := rfl
  obtain ⟨s1, s2, s3, s4, cl⟩ := ev_cells ns
  obtain ⟨bare, w1, w2⟩ := wide_bare
  have emp : ∀ ρ : EnvD, fzD [] (dnewF false) ρ = some (.dat (.dK []), ρ) := fun ρ => rfl
  have zt : ∀ ρ : EnvD, tupF (consA (conD (.int 7)) (consA (fzD [] (dnewF false)) nilA)) ρ = some (.dat zM, ρ) := fun ρ => tup2 rfl rfl
  have d600 : ∀ ρ : EnvD, fzD [] (dspF (consP (conD (.str "a")) (conD (.int 600)) (consP (conD (.str "l")) (conD (.int 200)) nilP))) ρ = some (.dat (dC [("a", 600), ("l", 200)]), ρ) := fun ρ => fz_own (dsp2 rfl rfl (by decide))
  have d1 : ∀ ρ : EnvD, fzD [] (dspF (consP (conD (.str "b")) (conD (.int 1)) nilP)) ρ = some (.dat (dC [("b", 1)]), ρ) := fun ρ => fz_own (dsp1 rfl)
  have bigAt : ∀ ρ : EnvD, fzD [] (bin2 (bin2 (conD (.str "a")) (conD (.int 150)) mulD) (bin2 (conD (.str "l")) (conD (.int 50)) mulD) addD) ρ = some (.dat (.str big), ρ) := fun ρ => fz_d (bin_at (z := .dat (.str big)) (bin_at (z := .dat (.str (repS "a" 150))) rfl rfl rfl rfl (mul_str (k := 150) (by decide +kernel) (by omega))) (bin_at (z := .dat (.str (repS "l" 50))) rfl rfl rfl rfl (mul_str (k := 50) (by decide +kernel) (by omega))) rfl rfl (add_str (by rw [len_rep_a, len_rep_l]; omega)))
  have b9000 : ∀ ρ : EnvD, fzD [] (bin2 (conD (.str "b")) (conD (.int 9000)) mulD) ρ = some (.dat (.str (repS "b" 9000)), ρ) := fun ρ => fz_d (bin_at (z := .dat (.str (repS "b" 9000))) rfl rfl rfl rfl (mul_str (k := 9000) (by decide +kernel) (by omega)))
  have st : setO (.mT (kvM (ring 2000))) (.tup [.int 1999, .str "b"]) (.tup [.int 0, .str big]) = some (.mT (kvM (wideE 2000 big))) := by
    have s := set_step (es := ring 2000) (by unfold ring; rw [List.length_map, List.length_range]; omega) ⟨2000 - 1, "b", 0, big⟩
    rw [put_wide (by omega) big] at s
    exact s
  have main : b_law (EX ns none none none none none none none none) = some (.ret (.dat (.bl true)), [some (.dat (.scr ns)), s1, s2, s3, s4, some (.dat (.dT (kvM (wideE 2000 big)))), some (.dat wide), some (.own (.ml toldW)), some (.dat flipD), none]) := by
    unfold b_law
    refine seq_at cl ?_
    refine seq_at (ρ1 := EX ns s1 s2 s3 s4 (some (.own (.mT (kvM (ring 2000))))) none none none) (set_own (ring_at ns s1 s2 s3 s4 none none none none (N := 2000) (by omega) (by omega)) rfl) ?_
    refine seq_at (ρ1 := EX ns s1 s2 s3 s4 (some (.own (.mT (kvM (wideE 2000 big))))) none none none) (item_at (y := .mT (kvM (ring 2000))) (tup2 (d := .int 0) rfl (bigAt _)) ⟨_, rfl⟩ (tup2 (d := .int 1999) (e := .str "b") rfl rfl) rfl rfl st) ?_
    refine seq_at (ρ1 := [some (.dat (.scr ns)), s1, s2, s3, s4, some (.dat (.dT (kvM (wideE 2000 big)))), some (.dat wide), none, none, none]) (set_dat (tup2' (ρ2 := [some (.dat (.scr ns)), s1, s2, s3, s4, some (.dat (.dT (kvM (wideE 2000 big)))), none, none, none, none]) (d := .int 2000) (e := .dT (kvM (wideE 2000 big))) rfl rfl) rfl) ?_
    refine seq_at (if_ff (or_ff' (tst_at (bin_at (z := .dat (.bl false)) (callP1 (z := .dat (.bl true)) (fz_dat (d := wide) rfl) (ev_is_machine wide_ok)) rfl rfl rfl rfl)) (tst_ne (callP3 (d := wide) (fz_dat rfl) (e := .int 3) rfl (b9000 _) wide_walk) (tup2 (d := .int 1003) rfl (d600 _)) eq_wide)) rfl) ?_
    refine seq_at (ρ1 := [some (.dat (.scr ns)), s1, s2, s3, s4, some (.dat (.dT (kvM (wideE 2000 big)))), some (.dat wide), some (.own (.ml toldW)), none, none]) (set_own (y := .ml toldW) (lst_at (cons_at (callP1 (d := wide) (fz_dat rfl) wide_reads) (cons_at (callP1 (d := wide) (fz_dat rfl) wide_sends) (cons_at (callP1 (callP2 (d := wide) (e := .str "al") (fz_dat rfl) rfl w1) w2) (cons_at (callP1 (zt _) z_reads) (cons_at (g := nilA) (callP3 (zt _) (e := .int 6) rfl (i := .str "") rfl z_walk) rfl))))) (by decide)) rfl) ?_
    have lit : lstF (consA (conD (.str "b")) (consA (conD (.str "al")) (consA (conD (.str "")) (consA (conD (.str "")) (consA (tupF (consA (conD (.int 6)) (consA (fzD [] (dnewF false)) nilA))) nilA))))) [some (.dat (.scr ns)), s1, s2, s3, s4, some (.dat (.dT (kvM (wideE 2000 big)))), some (.dat wide), some (.own (.ml toldW)), none, none] = some (.own (.ml toldW), [some (.dat (.scr ns)), s1, s2, s3, s4, some (.dat (.dT (kvM (wideE 2000 big)))), some (.dat wide), some (.own (.ml toldW)), none, none]) :=
      lst_at (ds := toldW) (cons_at (f := conD (.str "b")) rfl (cons_at (f := conD (.str "al")) rfl (cons_at (f := conD (.str "")) rfl (cons_at (f := conD (.str "")) rfl (cons_at (g := nilA) (tup2 (d := .int 6) rfl (emp _)) rfl))))) (by decide)
    refine seq_at (if_ff (tst_eq (d := .lst toldW) (f := varD 7) rfl lit rfl rfl eq_toldW) rfl) ?_
    refine seq_at (ρ1 := [some (.dat (.scr ns)), s1, s2, s3, s4, some (.dat (.dT (kvM (wideE 2000 big)))), some (.dat wide), some (.own (.ml toldW)), some (.dat flipD), none]) (set_dat (y := flipD) (tup2 (d := .int 2) rfl (flip_at _)) rfl) ?_
    refine ret_dat (bin_at (z := .dat (.bl true)) (d := .lst flipL) (e := .lst flipL) (lst_at (ds := flipL) (cons_at (callP3 (d := flipD) (fz_dat rfl) (e := .int 0) rfl (i := .str "aaa") rfl flip_walk0) (cons_at (callP3 (d := flipD) (fz_dat rfl) (e := .int 1) rfl (i := .str "a") rfl flip_step) (cons_at (g := nilA) (callP3 (d := flipD) (fz_dat rfl) (e := .int 1) rfl (i := .str "a") rfl flip_walk1) rfl))) (by decide)) (lst_at (ds := flipL) (cons_at (tup2 (d := .int 1) rfl (d1 _)) (cons_at (tup2 (d := .int 0) (e := .str "b") rfl rfl) (cons_at (g := nilA) (tup2 (d := .int 0) rfl (d1 _)) rfl))) (by decide)) rfl rfl ?_)
    show (eqX (.lst flipL) (.lst flipL)).map _ = _
    rw [eq_flipL]
    rfl
  rw [e, main]
  rfl
end KA

set_option maxHeartbeats 0
namespace LawT
open DL L2 PySem PySem.Spec PyProof.Rows
def h_is_whole : He.DefD := ⟨("is_whole", none), "is_whole", "is_whole", defArgs s_is_whole, defBody s_is_whole, defScope s_is_whole, [], []⟩
def h_is_pair : He.DefD := ⟨("is_pair", none), "is_pair", "is_pair", defArgs s_is_pair, defBody s_is_pair, defScope s_is_pair, [], []⟩
def h_is_letter : He.DefD := ⟨("is_letter", none), "is_letter", "is_letter", defArgs s_is_letter, defBody s_is_letter, defScope s_is_letter, [], []⟩
def h_is_letters : He.DefD := ⟨("is_letters", none), "is_letters", "is_letters", defArgs s_is_letters, defBody s_is_letters, defScope s_is_letters, [], []⟩
def h_told : He.DefD := ⟨("told", none), "told", "told", defArgs s_told, defBody s_told, defScope s_told, [], []⟩
def h_reads_in : He.DefD := ⟨("reads_in", none), "reads_in", "reads_in", defArgs s_reads_in, defBody s_reads_in, defScope s_reads_in, [], []⟩
def h_sends_in : He.DefD := ⟨("sends_in", none), "sends_in", "sends_in", defArgs s_sends_in, defBody s_sends_in, defScope s_sends_in, [], []⟩
def h__law_dice : He.DefD := ⟨("_law_dice", none), "_law_dice", "_law_dice", defArgs s__law_dice, defBody s__law_dice, defScope s__law_dice, [], []⟩
def h__law_roll : He.DefD := ⟨("_law_roll", none), "_law_roll", "_law_roll", defArgs s__law_roll, defBody s__law_roll, defScope s__law_roll, [], []⟩
def h__law_counts : He.DefD := ⟨("_law_counts", none), "_law_counts", "_law_counts", defArgs s__law_counts, defBody s__law_counts, defScope s__law_counts, [], []⟩
def h__law_told : He.DefD := ⟨("_law_told", none), "_law_told", "_law_told", defArgs s__law_told, defBody s__law_told, defScope s__law_told, [], []⟩
def h__law_reads : He.DefD := ⟨("_law_reads", none), "_law_reads", "_law_reads", defArgs s__law_reads, defBody s__law_reads, defScope s__law_reads, [], []⟩
def h__law_sends : He.DefD := ⟨("_law_sends", none), "_law_sends", "_law_sends", defArgs s__law_sends, defBody s__law_sends, defScope s__law_sends, [], []⟩
def h_is_short : He.DefD := ⟨("is_short", none), "is_short", "is_short", defArgs s_is_short, defBody s_is_short, defScope s_is_short, [], []⟩
def h_is_within : He.DefD := ⟨("is_within", none), "is_within", "is_within", defArgs s_is_within, defBody s_is_within, defScope s_is_within, [], []⟩
def h_counts_in : He.DefD := ⟨("counts_in", none), "counts_in", "counts_in", defArgs s_counts_in, defBody s_counts_in, defScope s_counts_in, [], []⟩
def h_is_row_in : He.DefD := ⟨("is_row_in", none), "is_row_in", "is_row_in", defArgs s_is_row_in, defBody s_is_row_in, defScope s_is_row_in, [], []⟩
def h_is_mail : He.DefD := ⟨("is_mail", none), "is_mail", "is_mail", defArgs s_is_mail, defBody s_is_mail, defScope s_is_mail, [], []⟩
def h_require_read : He.DefD := ⟨("require_read", none), "require_read", "require_read", defArgs s_require_read, defBody s_require_read, defScope s_require_read, [], []⟩
def h__law_pick : He.DefD := ⟨("_law_pick", none), "_law_pick", "_law_pick", defArgs s__law_pick, defBody s__law_pick, defScope s__law_pick, [], []⟩
def h__law_added : He.DefD := ⟨("_law_added", none), "_law_added", "_law_added", defArgs s__law_added, defBody s__law_added, defScope s__law_added, [], []⟩
def h__law_walked : He.DefD := ⟨("_law_walked", none), "_law_walked", "_law_walked", defArgs s__law_walked, defBody s__law_walked, defScope s__law_walked, [], []⟩
def h__law_both : He.DefD := ⟨("_law_both", none), "_law_both", "_law_both", defArgs s__law_both, defBody s__law_both, defScope s__law_both, [], []⟩
def h_require_number : He.DefD := ⟨("require_number", none), "require_number", "require_number", defArgs s_require_number, defBody s_require_number, defScope s_require_number, [], []⟩
def h_require_row : He.DefD := ⟨("require_row", none), "require_row", "require_row", defArgs s_require_row, defBody s_require_row, defScope s_require_row, [], []⟩
def h_is_step_key : He.DefD := ⟨("is_step_key", none), "is_step_key", "is_step_key", defArgs s_is_step_key, defBody s_is_step_key, defScope s_is_step_key, [], []⟩
def h_walked : He.DefD := ⟨("walked", none), "walked", "walked", defArgs s_walked, defBody s_walked, defScope s_walked, [], []⟩
def h__law_row_drawn : He.DefD := ⟨("_law_row_drawn", none), "_law_row_drawn", "_law_row_drawn", defArgs s__law_row_drawn, defBody s__law_row_drawn, defScope s__law_row_drawn, [], []⟩
def h_require_read_row : He.DefD := ⟨("require_read_row", none), "require_read_row", "require_read_row", defArgs s_require_read_row, defBody s_require_read_row, defScope s_require_read_row, [], []⟩
def h_is_machine : He.DefD := ⟨("is_machine", none), "is_machine", "is_machine", defArgs s_is_machine, defBody s_is_machine, defScope s_is_machine, [], []⟩
def h__law_unit_machine : He.DefD := ⟨("_law_unit_machine", none), "_law_unit_machine", "_law_unit_machine", defArgs s__law_unit_machine, defBody s__law_unit_machine, defScope s__law_unit_machine, [], []⟩
def h_require_machine : He.DefD := ⟨("require_machine", none), "require_machine", "require_machine", defArgs s_require_machine, defBody s_require_machine, defScope s_require_machine, [], []⟩
def h__law_even_machine : He.DefD := ⟨("_law_even_machine", none), "_law_even_machine", "_law_even_machine", defArgs s__law_even_machine, defBody s__law_even_machine, defScope s__law_even_machine, [], []⟩
def h_reads_of : He.DefD := ⟨("reads_of", none), "reads_of", "reads_of", defArgs s_reads_of, defBody s_reads_of, defScope s_reads_of, [], []⟩
def h_sends_of : He.DefD := ⟨("sends_of", none), "sends_of", "sends_of", defArgs s_sends_of, defBody s_sends_of, defScope s_sends_of, [], []⟩
def h_step_of : He.DefD := ⟨("step_of", none), "step_of", "step_of", defArgs s_step_of, defBody s_step_of, defScope s_step_of, [], []⟩
def h_walk : He.DefD := ⟨("walk", none), "walk", "walk", defArgs s_walk, defBody s_walk, defScope s_walk, [], []⟩
def h_without : He.DefD := ⟨("without", none), "without", "without", defArgs s_without, defBody s_without, defScope s_without, [], []⟩
def h__law_any_machine : He.DefD := ⟨("_law_any_machine", none), "_law_any_machine", "_law_any_machine", defArgs s__law_any_machine, defBody s__law_any_machine, defScope s__law_any_machine, [], []⟩
def h__law_machine_right : He.DefD := ⟨("_law_machine_right", none), "_law_machine_right", "_law_machine_right", defArgs s__law_machine_right, defBody s__law_machine_right, defScope s__law_machine_right, [], []⟩
def h_law : He.DefD := ⟨("law", none), "law", "law", defArgs s_law, defBody s_law, defScope s_law, [], []⟩
def hfn : List He.DefD := [h_is_whole, h_is_pair, h_is_letter, h_is_letters, h_told, h_reads_in, h_sends_in, h__law_dice, h__law_roll, h__law_counts, h__law_told, h__law_reads, h__law_sends, h_is_short, h_is_within, h_counts_in, h_is_row_in, h_is_mail, h_require_read, h__law_pick, h__law_added, h__law_walked, h__law_both, h_require_number, h_require_row, h_is_step_key, h_walked, h__law_row_drawn, h_require_read_row, h_is_machine, h__law_unit_machine, h_require_machine, h__law_even_machine, h_reads_of, h_sends_of, h_step_of, h_walk, h_without, h__law_any_machine, h__law_machine_right, h_law]
def hfa1 : List He.Fa := [.glo "is_whole", .glo "is_pair", .glo "is_letter", .glo "is_letters", .glo "told", .glo "reads_in", .glo "sends_in", .glo "_law_dice", .glo "_law_roll", .glo "_law_counts", .glo "_law_told", .glo "_law_reads", .glo "_law_sends", .glo "is_short", .glo "is_within", .glo "counts_in", .glo "is_row_in", .glo "is_mail", .glo "require_read", .glo "_law_pick", .glo "_law_added", .glo "_law_walked", .glo "_law_both", .glo "require_number", .glo "require_row", .glo "is_step_key", .glo "walked", .glo "_law_row_drawn", .glo "require_read_row", .glo "is_machine", .glo "_law_unit_machine", .glo "require_machine"]
def hfa2 : List He.Fa := [.glo "_law_even_machine", .glo "reads_of", .glo "sends_of", .glo "step_of", .glo "walk", .glo "without", .glo "_law_any_machine", .glo "_law_machine_right", .glo "law", .free "abs", .free "all", .free "bool", .free "dict", .free "int", .free "isinstance", .free "len", .free "list", .free "max", .free "min", .free "range", .free "repr", .free "set", .free "sorted", .free "str", .free "tuple", .int "FAR" 1000000000000000000000000000000000000000000000000000000000000, .str "LETTERS" "abcdefghijkl", .int "MAX_MAIL" 200, .int "MAX_PLACES" 2000, .int "MAX_READ" 8, .int "MAX_ROW" 100000, .int "PAIR_SIZE" 2]
def hfa : List He.Fa := hfa1 ++ hfa2
def hnm0 : List PySem.Str := ["SendingError", "InvalidRow", "InvalidMachine", "InvalidNumber", "UnknownName", "LETTERS", "FAR", "PAIR_SIZE", "is_whole", "is_short", "is_within", "is_pair", "is_letter", "is_letters", "require_number", "MAX_ROW", "told", "counts_in", "is_row_in", "require_row", "MAX_PLACES", "MAX_READ", "MAX_MAIL", "is_mail", "is_step_key", "reads_in", "sends_in", "walked", "require_machine", "require_read"]
def hnm1 : List PySem.Str := ["require_read_row", "is_machine", "reads_of", "sends_of", "step_of", "walk", "without", "_law_dice", "_law_roll", "_law_pick", "_law_row_drawn", "_law_counts", "_law_told", "_law_added", "_law_reads", "_law_walked", "_law_unit_machine", "_law_both", "_law_even_machine", "_law_any_machine", "_law_sends", "_law_machine_right"]
def hnm : List PySem.Str := hnm0 ++ hnm1
abbrev RR : PySem.W.OpenRow := PySem.W.OpenLaw.row PySem.Challenge.rw_sameending_k04_whole_walks
abbrev hkk : PySem.W.Hook := He.hookD 4 hfa hfn
def hob (s : PySem.W.SharedT) : He.AlD := He.obsDG 4 hfa hfn (HandSHeadRun.getT s)
theorem hob_eq (s : PySem.W.SharedT) : hob s = hkk.obs s.abs := He.obsDG_eq (HandSHeadRun.getT_eq s)
theorem hrun (w : World) : HandSHeadRun.RunEq RR (PySem.W.view RR.prog [57]) hkk hob 20000 hnm w := by
  intro os
  kernel_rfl
theorem facts {P : Program} {w : World} {K : PySem.W.Frag} {h : Heap} {mg : Str → Option Value} {f : Addr} (X : K.In h) (G : h.Ns mainGlobals mg) (hf : mg ("law" : Str) = some (.ref f)) (c : He.SaysD hfa hfn K) :
    ∃ fd : FuncData, (∀ (s : Shared) (v : Value), BindsTo s fd ⟨[v], []⟩ [("script", v)]) ∧ ∀ b : Heap, K.In b → BaseOk mg b → FnG P w K mg b 8 f fd ["script"] (spP ⟨K, P, w⟩ 1 m_law) := by
  obtain ⟨fd0, D0⟩ := c.def_ 0 (d := h_is_whole) rfl
  have F0 := fun_ofD (st := s_is_whole) D0
  obtain ⟨fd1, D1⟩ := c.def_ 1 (d := h_is_pair) rfl
  have F1 := fun_ofD (st := s_is_pair) D1
  obtain ⟨fd2, D2⟩ := c.def_ 2 (d := h_is_letter) rfl
  have F2 := fun_ofD (st := s_is_letter) D2
  obtain ⟨fd3, D3⟩ := c.def_ 3 (d := h_is_letters) rfl
  have F3 := fun_ofD (st := s_is_letters) D3
  obtain ⟨fd4, D4⟩ := c.def_ 4 (d := h_told) rfl
  have F4 := fun_ofD (st := s_told) D4
  obtain ⟨fd5, D5⟩ := c.def_ 5 (d := h_reads_in) rfl
  have F5 := fun_ofD (st := s_reads_in) D5
  obtain ⟨fd6, D6⟩ := c.def_ 6 (d := h_sends_in) rfl
  have F6 := fun_ofD (st := s_sends_in) D6
  obtain ⟨fd7, D7⟩ := c.def_ 7 (d := h__law_dice) rfl
  have F7 := fun_ofD (st := s__law_dice) D7
  obtain ⟨fd8, D8⟩ := c.def_ 8 (d := h__law_roll) rfl
  have F8 := fun_ofD (st := s__law_roll) D8
  obtain ⟨fd9, D9⟩ := c.def_ 9 (d := h__law_counts) rfl
  have F9 := fun_ofD (st := s__law_counts) D9
  obtain ⟨fd10, D10⟩ := c.def_ 10 (d := h__law_told) rfl
  have F10 := fun_ofD (st := s__law_told) D10
  obtain ⟨fd11, D11⟩ := c.def_ 11 (d := h__law_reads) rfl
  have F11 := fun_ofD (st := s__law_reads) D11
  obtain ⟨fd12, D12⟩ := c.def_ 12 (d := h__law_sends) rfl
  have F12 := fun_ofD (st := s__law_sends) D12
  obtain ⟨fd13, D13⟩ := c.def_ 13 (d := h_is_short) rfl
  have F13 := fun_ofD (st := s_is_short) D13
  obtain ⟨fd14, D14⟩ := c.def_ 14 (d := h_is_within) rfl
  have F14 := fun_ofD (st := s_is_within) D14
  obtain ⟨fd15, D15⟩ := c.def_ 15 (d := h_counts_in) rfl
  have F15 := fun_ofD (st := s_counts_in) D15
  obtain ⟨fd16, D16⟩ := c.def_ 16 (d := h_is_row_in) rfl
  have F16 := fun_ofD (st := s_is_row_in) D16
  obtain ⟨fd17, D17⟩ := c.def_ 17 (d := h_is_mail) rfl
  have F17 := fun_ofD (st := s_is_mail) D17
  obtain ⟨fd18, D18⟩ := c.def_ 18 (d := h_require_read) rfl
  have F18 := fun_ofD (st := s_require_read) D18
  obtain ⟨fd19, D19⟩ := c.def_ 19 (d := h__law_pick) rfl
  have F19 := fun_ofD (st := s__law_pick) D19
  obtain ⟨fd20, D20⟩ := c.def_ 20 (d := h__law_added) rfl
  have F20 := fun_ofD (st := s__law_added) D20
  obtain ⟨fd21, D21⟩ := c.def_ 21 (d := h__law_walked) rfl
  have F21 := fun_ofD (st := s__law_walked) D21
  obtain ⟨fd22, D22⟩ := c.def_ 22 (d := h__law_both) rfl
  have F22 := fun_ofD (st := s__law_both) D22
  obtain ⟨fd23, D23⟩ := c.def_ 23 (d := h_require_number) rfl
  have F23 := fun_ofD (st := s_require_number) D23
  obtain ⟨fd24, D24⟩ := c.def_ 24 (d := h_require_row) rfl
  have F24 := fun_ofD (st := s_require_row) D24
  obtain ⟨fd25, D25⟩ := c.def_ 25 (d := h_is_step_key) rfl
  have F25 := fun_ofD (st := s_is_step_key) D25
  obtain ⟨fd26, D26⟩ := c.def_ 26 (d := h_walked) rfl
  have F26 := fun_ofD (st := s_walked) D26
  obtain ⟨fd27, D27⟩ := c.def_ 27 (d := h__law_row_drawn) rfl
  have F27 := fun_ofD (st := s__law_row_drawn) D27
  obtain ⟨fd28, D28⟩ := c.def_ 28 (d := h_require_read_row) rfl
  have F28 := fun_ofD (st := s_require_read_row) D28
  obtain ⟨fd29, D29⟩ := c.def_ 29 (d := h_is_machine) rfl
  have F29 := fun_ofD (st := s_is_machine) D29
  obtain ⟨fd30, D30⟩ := c.def_ 30 (d := h__law_unit_machine) rfl
  have F30 := fun_ofD (st := s__law_unit_machine) D30
  obtain ⟨fd31, D31⟩ := c.def_ 31 (d := h_require_machine) rfl
  have F31 := fun_ofD (st := s_require_machine) D31
  obtain ⟨fd32, D32⟩ := c.def_ 32 (d := h__law_even_machine) rfl
  have F32 := fun_ofD (st := s__law_even_machine) D32
  obtain ⟨fd33, D33⟩ := c.def_ 33 (d := h_reads_of) rfl
  have F33 := fun_ofD (st := s_reads_of) D33
  obtain ⟨fd34, D34⟩ := c.def_ 34 (d := h_sends_of) rfl
  have F34 := fun_ofD (st := s_sends_of) D34
  obtain ⟨fd35, D35⟩ := c.def_ 35 (d := h_step_of) rfl
  have F35 := fun_ofD (st := s_step_of) D35
  obtain ⟨fd36, D36⟩ := c.def_ 36 (d := h_walk) rfl
  have F36 := fun_ofD (st := s_walk) D36
  obtain ⟨fd37, D37⟩ := c.def_ 37 (d := h_without) rfl
  have F37 := fun_ofD (st := s_without) D37
  obtain ⟨fd38, D38⟩ := c.def_ 38 (d := h__law_any_machine) rfl
  have F38 := fun_ofD (st := s__law_any_machine) D38
  obtain ⟨fd39, D39⟩ := c.def_ 39 (d := h__law_machine_right) rfl
  have F39 := fun_ofD (st := s__law_machine_right) D39
  obtain ⟨fd40, D40⟩ := c.def_ 40 (d := h_law) rfl
  have F40 := fun_ofD (st := s_law) D40
  have b0 := Fun.binds (ps := ["value"]) F0 fun _ _ _ _ _ _ us hl => match us, hl with | [_], _ => rfl
  have b1 := Fun.binds (ps := ["value"]) F1 fun _ _ _ _ _ _ us hl => match us, hl with | [_], _ => rfl
  have b2 := Fun.binds (ps := ["value"]) F2 fun _ _ _ _ _ _ us hl => match us, hl with | [_], _ => rfl
  have b3 := Fun.binds (ps := ["value"]) F3 fun _ _ _ _ _ _ us hl => match us, hl with | [_], _ => rfl
  have b4 := Fun.binds (ps := ["numbers"]) F4 fun _ _ _ _ _ _ us hl => match us, hl with | [_], _ => rfl
  have b5 := Fun.binds (ps := ["machine"]) F5 fun _ _ _ _ _ _ us hl => match us, hl with | [_], _ => rfl
  have b6 := Fun.binds (ps := ["machine"]) F6 fun _ _ _ _ _ _ us hl => match us, hl with | [_], _ => rfl
  have b7 := Fun.binds (ps := ["script", "spot"]) F7 fun _ _ _ _ _ _ us hl => match us, hl with | [_, _], _ => rfl
  have b8 := Fun.binds (ps := ["dice", "total"]) F8 fun _ _ _ _ _ _ us hl => match us, hl with | [_, _], _ => rfl
  have b9 := Fun.binds (ps := ["row"]) F9 fun _ _ _ _ _ _ us hl => match us, hl with | [_], _ => rfl
  have b10 := Fun.binds (ps := ["numbers"]) F10 fun _ _ _ _ _ _ us hl => match us, hl with | [_], _ => rfl
  have b11 := Fun.binds (ps := ["machine"]) F11 fun _ _ _ _ _ _ us hl => match us, hl with | [_], _ => rfl
  have b12 := Fun.binds (ps := ["machine"]) F12 fun _ _ _ _ _ _ us hl => match us, hl with | [_], _ => rfl
  have b13 := Fun.binds (ps := ["value"]) F13 fun _ _ _ _ _ _ us hl => match us, hl with | [_], _ => rfl
  have b14 := Fun.binds (ps := ["value", "least", "most"]) F14 fun _ _ _ _ _ _ us hl => match us, hl with | [_, _, _], _ => rfl
  have b15 := Fun.binds (ps := ["row"]) F15 fun _ _ _ _ _ _ us hl => match us, hl with | [_], _ => rfl
  have b16 := Fun.binds (ps := ["value"]) F16 fun _ _ _ _ _ _ us hl => match us, hl with | [_], _ => rfl
  have b17 := Fun.binds (ps := ["value"]) F17 fun _ _ _ _ _ _ us hl => match us, hl with | [_], _ => rfl
  have b18 := Fun.binds (ps := ["machine", "letter"]) F18 fun _ _ _ _ _ _ us hl => match us, hl with | [_, _], _ => rfl
  have b19 := Fun.binds (ps := ["dice", "items"]) F19 fun _ _ _ _ _ _ us hl => match us, hl with | [_, _], _ => rfl
  have b20 := Fun.binds (ps := ["one", "other"]) F20 fun _ _ _ _ _ _ us hl => match us, hl with | [_, _], _ => rfl
  have b21 := Fun.binds (ps := ["machine", "place", "row"]) F21 fun _ _ _ _ _ _ us hl => match us, hl with | [_, _, _], _ => rfl
  have b22 := Fun.binds (ps := ["one", "other"]) F22 fun _ _ _ _ _ _ us hl => match us, hl with | [_, _], _ => rfl
  have b23 := Fun.binds (ps := ["value", "least", "most"]) F23 fun _ _ _ _ _ _ us hl => match us, hl with | [_, _, _], _ => rfl
  have b24 := Fun.binds (ps := ["value"]) F24 fun _ _ _ _ _ _ us hl => match us, hl with | [_], _ => rfl
  have b25 := Fun.binds (ps := ["key", "places"]) F25 fun _ _ _ _ _ _ us hl => match us, hl with | [_, _], _ => rfl
  have b26 := Fun.binds (ps := ["machine", "place", "row"]) F26 fun _ _ _ _ _ _ us hl => match us, hl with | [_, _, _], _ => rfl
  have b27 := Fun.binds (ps := ["dice", "most", "letters"]) F27 fun _ _ _ _ _ _ us hl => match us, hl with | [_, _, _], _ => rfl
  have b28 := Fun.binds (ps := ["machine", "row"]) F28 fun _ _ _ _ _ _ us hl => match us, hl with | [_, _], _ => rfl
  have b29 := Fun.binds (ps := ["value"]) F29 fun _ _ _ _ _ _ us hl => match us, hl with | [_], _ => rfl
  have b30 := Fun.binds (ps := ["dice", "reads", "sends", "most"]) F30 fun _ _ _ _ _ _ us hl => match us, hl with | [_, _, _, _], _ => rfl
  have b31 := Fun.binds (ps := ["value"]) F31 fun _ _ _ _ _ _ us hl => match us, hl with | [_], _ => rfl
  have b32 := Fun.binds (ps := ["dice", "reads", "sends", "most"]) F32 fun _ _ _ _ _ _ us hl => match us, hl with | [_, _, _, _], _ => rfl
  have b33 := Fun.binds (ps := ["machine"]) F33 fun _ _ _ _ _ _ us hl => match us, hl with | [_], _ => rfl
  have b34 := Fun.binds (ps := ["machine"]) F34 fun _ _ _ _ _ _ us hl => match us, hl with | [_], _ => rfl
  have b35 := Fun.binds (ps := ["machine", "place", "letter"]) F35 fun _ _ _ _ _ _ us hl => match us, hl with | [_, _, _], _ => rfl
  have b36 := Fun.binds (ps := ["machine", "place", "row"]) F36 fun _ _ _ _ _ _ us hl => match us, hl with | [_, _, _], _ => rfl
  have b37 := Fun.binds (ps := ["machine", "letters"]) F37 fun _ _ _ _ _ _ us hl => match us, hl with | [_, _], _ => rfl
  have b38 := Fun.binds (ps := ["dice", "reads", "sends", "most"]) F38 fun _ _ _ _ _ _ us hl => match us, hl with | [_, _, _, _], _ => rfl
  have b39 := Fun.binds (ps := ["dice", "machine"]) F39 fun _ _ _ _ _ _ us hl => match us, hl with | [_, _], _ => rfl
  have b40 := Fun.binds (ps := ["script"]) F40 fun _ _ _ _ _ _ us hl => match us, hl with | [_], _ => rfl
  have bl := FunD.bindsA (ps := ["script"]) D40 fun _ _ _ _ _ _ us hl => match us, hl with | [_], _ => rfl
  have e := hf.symm.trans (He.glo_ok X G (c.fact 40 (f := .glo "law") rfl))
  cases e
  exact ⟨fd40, fun s v => bl s [v] rfl, fun b _ B => ok_law ⟨_,
    fd0,
    F0,
    He.glo_ok X G (c.fact 0 (f := .glo "is_whole") rfl),
    b0,
    _,
    fd1,
    F1,
    He.glo_ok X G (c.fact 1 (f := .glo "is_pair") rfl),
    b1,
    _,
    fd2,
    F2,
    He.glo_ok X G (c.fact 2 (f := .glo "is_letter") rfl),
    b2,
    _,
    fd3,
    F3,
    He.glo_ok X G (c.fact 3 (f := .glo "is_letters") rfl),
    b3,
    _,
    fd4,
    F4,
    He.glo_ok X G (c.fact 4 (f := .glo "told") rfl),
    b4,
    _,
    fd5,
    F5,
    He.glo_ok X G (c.fact 5 (f := .glo "reads_in") rfl),
    b5,
    _,
    fd6,
    F6,
    He.glo_ok X G (c.fact 6 (f := .glo "sends_in") rfl),
    b6,
    _,
    fd7,
    F7,
    He.glo_ok X G (c.fact 7 (f := .glo "_law_dice") rfl),
    b7,
    _,
    fd8,
    F8,
    He.glo_ok X G (c.fact 8 (f := .glo "_law_roll") rfl),
    b8,
    _,
    fd9,
    F9,
    He.glo_ok X G (c.fact 9 (f := .glo "_law_counts") rfl),
    b9,
    _,
    fd10,
    F10,
    He.glo_ok X G (c.fact 10 (f := .glo "_law_told") rfl),
    b10,
    _,
    fd11,
    F11,
    He.glo_ok X G (c.fact 11 (f := .glo "_law_reads") rfl),
    b11,
    _,
    fd12,
    F12,
    He.glo_ok X G (c.fact 12 (f := .glo "_law_sends") rfl),
    b12,
    _,
    fd13,
    F13,
    He.glo_ok X G (c.fact 13 (f := .glo "is_short") rfl),
    b13,
    _,
    fd14,
    F14,
    He.glo_ok X G (c.fact 14 (f := .glo "is_within") rfl),
    b14,
    _,
    fd15,
    F15,
    He.glo_ok X G (c.fact 15 (f := .glo "counts_in") rfl),
    b15,
    _,
    fd16,
    F16,
    He.glo_ok X G (c.fact 16 (f := .glo "is_row_in") rfl),
    b16,
    _,
    fd17,
    F17,
    He.glo_ok X G (c.fact 17 (f := .glo "is_mail") rfl),
    b17,
    _,
    fd18,
    F18,
    He.glo_ok X G (c.fact 18 (f := .glo "require_read") rfl),
    b18,
    _,
    fd19,
    F19,
    He.glo_ok X G (c.fact 19 (f := .glo "_law_pick") rfl),
    b19,
    _,
    fd20,
    F20,
    He.glo_ok X G (c.fact 20 (f := .glo "_law_added") rfl),
    b20,
    _,
    fd21,
    F21,
    He.glo_ok X G (c.fact 21 (f := .glo "_law_walked") rfl),
    b21,
    _,
    fd22,
    F22,
    He.glo_ok X G (c.fact 22 (f := .glo "_law_both") rfl),
    b22,
    _,
    fd23,
    F23,
    He.glo_ok X G (c.fact 23 (f := .glo "require_number") rfl),
    b23,
    _,
    fd24,
    F24,
    He.glo_ok X G (c.fact 24 (f := .glo "require_row") rfl),
    b24,
    _,
    fd25,
    F25,
    He.glo_ok X G (c.fact 25 (f := .glo "is_step_key") rfl),
    b25,
    _,
    fd26,
    F26,
    He.glo_ok X G (c.fact 26 (f := .glo "walked") rfl),
    b26,
    _,
    fd27,
    F27,
    He.glo_ok X G (c.fact 27 (f := .glo "_law_row_drawn") rfl),
    b27,
    _,
    fd28,
    F28,
    He.glo_ok X G (c.fact 28 (f := .glo "require_read_row") rfl),
    b28,
    _,
    fd29,
    F29,
    He.glo_ok X G (c.fact 29 (f := .glo "is_machine") rfl),
    b29,
    _,
    fd30,
    F30,
    He.glo_ok X G (c.fact 30 (f := .glo "_law_unit_machine") rfl),
    b30,
    _,
    fd31,
    F31,
    He.glo_ok X G (c.fact 31 (f := .glo "require_machine") rfl),
    b31,
    _,
    fd32,
    F32,
    He.glo_ok X G (c.fact 32 (f := .glo "_law_even_machine") rfl),
    b32,
    _,
    fd33,
    F33,
    He.glo_ok X G (c.fact 33 (f := .glo "reads_of") rfl),
    b33,
    _,
    fd34,
    F34,
    He.glo_ok X G (c.fact 34 (f := .glo "sends_of") rfl),
    b34,
    _,
    fd35,
    F35,
    He.glo_ok X G (c.fact 35 (f := .glo "step_of") rfl),
    b35,
    _,
    fd36,
    F36,
    He.glo_ok X G (c.fact 36 (f := .glo "walk") rfl),
    b36,
    _,
    fd37,
    F37,
    He.glo_ok X G (c.fact 37 (f := .glo "without") rfl),
    b37,
    _,
    fd38,
    F38,
    He.glo_ok X G (c.fact 38 (f := .glo "_law_any_machine") rfl),
    b38,
    _,
    fd39,
    F39,
    He.glo_ok X G (c.fact 39 (f := .glo "_law_machine_right") rfl),
    b39,
    _,
    fd40,
    F40,
    He.glo_ok X G (c.fact 40 (f := .glo "law") rfl),
    b40,
    B.2,
    He.free_ok X G (c.fact 41 (f := .free "abs") rfl),
    He.free_ok X G (c.fact 42 (f := .free "all") rfl),
    He.free_ok X G (c.fact 43 (f := .free "bool") rfl),
    He.free_ok X G (c.fact 44 (f := .free "dict") rfl),
    He.free_ok X G (c.fact 45 (f := .free "int") rfl),
    He.free_ok X G (c.fact 46 (f := .free "isinstance") rfl),
    He.free_ok X G (c.fact 47 (f := .free "len") rfl),
    He.free_ok X G (c.fact 48 (f := .free "list") rfl),
    He.free_ok X G (c.fact 49 (f := .free "max") rfl),
    He.free_ok X G (c.fact 50 (f := .free "min") rfl),
    He.free_ok X G (c.fact 51 (f := .free "range") rfl),
    He.free_ok X G (c.fact 52 (f := .free "repr") rfl),
    He.free_ok X G (c.fact 53 (f := .free "set") rfl),
    He.free_ok X G (c.fact 54 (f := .free "sorted") rfl),
    He.free_ok X G (c.fact 55 (f := .free "str") rfl),
    He.free_ok X G (c.fact 56 (f := .free "tuple") rfl),
    He.int_ok X G (c.fact 57 (f := .int "FAR" 1000000000000000000000000000000000000000000000000000000000000) rfl),
    He.str_ok X G (c.fact 58 (f := .str "LETTERS" "abcdefghijkl") rfl),
    He.int_ok X G (c.fact 59 (f := .int "MAX_MAIL" 200) rfl),
    He.int_ok X G (c.fact 60 (f := .int "MAX_PLACES" 2000) rfl),
    He.int_ok X G (c.fact 61 (f := .int "MAX_READ" 8) rfl),
    He.int_ok X G (c.fact 62 (f := .int "MAX_ROW" 100000) rfl),
    He.int_ok X G (c.fact 63 (f := .int "PAIR_SIZE" 2) rfl)⟩⟩
end LawT
open PySem PySem.W PySem.Calls PyProof.Rows
theorem law_holds (law : ∀ ns : List Int, ns.length ≤ 63 → (∀ z ∈ ns, Builtin.Int.intBits z ≤ 1048576) → LawT.m_law [.scr ns] = some (.dat (.bl true))) : PySem.Challenge.rw_sameending_k04_whole_walks.Holds := by
  w_on; o_law
  refine HandSHeadRun.head_any (r := OpenLaw.row PySem.Challenge.rw_sameending_k04_whole_walks) (q := view (OpenLaw.row PySem.Challenge.rw_sameending_k04_whole_walks).prog [57]) (H := LawT.hkk) (ob := LawT.hob) (M := 20000) (loose := LawT.hnm) (d := HandSHeadRun.topDef (OpenLaw.row PySem.Challenge.rw_sameending_k04_whole_walks).prog 57) (kwd := []) LawT.hob_eq
    (by kernel_rfl) (fun s => by kernel_rfl) LawT.hrun (by kernel_rfl) (by kernel_rfl) (by kernel_rfl) (by rfl) (by first | assumption | decide +kernel) (by decide +kernel) ⟨rfl, rfl, rfl, rfl, rfl, by decide +kernel⟩ ?hw ?hc
  case hw => w_witness2
  case hc =>
    refine DL.walk_ofG (l := PySem.Challenge.rw_sameending_k04_whole_walks) (n := 63) (k := 8) (x := "script") (m := LawT.m_law) rfl (by decide) (by kernel_rfl) ⟨rfl, by decide, by decide⟩ (by decide +kernel) ?F law
    intro w mg fa h Y G hmg0
    obtain ⟨K, KX, c⟩ := Y
    have hmg : mg ("law" : PySem.Str) = some (.ref fa) := by
      have e : (HandSHeadRun.topDef (OpenLaw.row PySem.Challenge.rw_sameending_k04_whole_walks).prog 57).name = ("law" : PySem.Str) := by kernel_rfl
      rw [← e]
      exact hmg0
    obtain ⟨fd, hb, hF⟩ := LawT.facts (P := (PySem.Challenge.rw_sameending_k04_whole_walks).prog) (w := w) KX G hmg c
    exact ⟨K, fd, KX, hb, hF⟩

theorem PySem.Challenge.cw_sameending_k04_whole_walks_holds : PySem.Challenge.rw_sameending_k04_whole_walks.Holds := by
  exact law_holds fun ns _ _ => KA.law_true ns
