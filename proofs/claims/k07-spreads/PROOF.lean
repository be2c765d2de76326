import PyProof.Rows.All
import Wide.All
import OpenK.AllK
import Wide.FinOn
import HandS.ForMost
import HandS.ForExc
import HandS.TryMany
import HandS.TryOnly
import HandS.ExcField
import HandS.ExcInit
import HandS.Deep
import HandS.NoneIn
import HandS.Style
import HandS.Flow
import HandS.Wide
import HandS.WideMore
import HandS.WideBits
import HandS.IsInst
import HandS.SortInts
import KE.DataEq
import HandS.Dict
import KE.KeyNested
import KE.KDictCopyH
import HandS.Flt
import HandS.HeadHook1
import HandS.HeadHook2
import HandS.HeadHook4
import HandS.HeadWalk
import HandS.Codes
import HandS.WordsExc
import HandS.Conv
import HandS.BoundList
import HandS.Base
import HandS.Call
import HandS.Ends
import HandS.More
import HandS.Words
import HandS.Defaults
import HandS.Head0
import HandS.Head1
import HandS.Head2
import HandS.HeadEnd
import HandS.HeadNt
import HandS.TupAny
import PySem.Challenge.RW_forcedapart_k07_word_of_a_change_that_sp
set_option Elab.async false
set_option linter.all false
set_option maxRecDepth 100000
set_option maxHeartbeats 4000000
set_option autoImplicit false
namespace AB
open PySem L2 PySem.Spec PyProof.Rows
/-! ### dicts whose keys are texts and None -/
def nIs : Option Str → Value → Bool
  | none, .none => true
  | none, _ => false
  | some x, v => Value.isStrOf x v
def nH (w : World) : Option Str → Int
  | none => NestedKey.hash w .none
  | some x => hashStr w x
theorem nIs_shape : ∀ {k : Option Str} {v : Value}, nIs k v = true → (k = none ∧ v = Value.none) ∨ ∃ x t, k = some x ∧ v = Value.str x t
  | none, v, h => by
    cases v with
    | none => exact .inl ⟨rfl, rfl⟩
    | _ => cases h
  | some x, v, h => by
    obtain ⟨t, e⟩ := Value.isStrOf_shape (x := x) (v := v) h
    exact .inr ⟨x, t, rfl, e⟩
def nKind (prog : Program) (w : World) : PySem.KeyKind prog w (Option Str) where
  is := nIs
  hash := nH w
  inj := fun v a b ha hb => by
    rcases nIs_shape ha with ⟨rfl, rfl⟩ | ⟨x, t, rfl, rfl⟩
    · rcases nIs_shape hb with ⟨rfl, _⟩ | ⟨y, u, rfl, e⟩
      · rfl
      · exact nomatch e
    · rcases nIs_shape hb with ⟨rfl, e⟩ | ⟨y, u, rfl, e⟩
      · exact nomatch e
      · injection e with e1 _; rw [e1]
  byValue := fun k v h => by
    rcases nIs_shape h with ⟨rfl, rfl⟩ | ⟨x, t, rfl, rfl⟩ <;> rfl
  pyHash := fun hv h => by
    rcases nIs_shape hv with ⟨rfl, rfl⟩ | ⟨x, t, rfl, rfl⟩
    · exact PySem.W.pyHash_slot (T := "NoneType") rfl PySem.F.slot_NoneType_hash PySem.F.entry_NoneType_hash (PySem.F.args_NoneType_hash_1 _) (beq_builtin_none _) (.inl rfl) (wpAny_bind (wpAny_pure (wpAny_bind (wpAny_mkInt (wpAny_pure ⟨_, _, rfl, h⟩)))))
    · exact wpAny_pyHash_str h
  eqBool := fun hu hv h => by
    rcases nIs_shape hu with ⟨rfl, rfl⟩ | ⟨x, t, rfl, rfl⟩
    · rcases nIs_shape hv with ⟨rfl, rfl⟩ | ⟨y, u, rfl, rfl⟩
      · exact SeqAt.EqAt.same _ _ _ _ _ h
      · exact SeqAt.EqAt.none_str y u _ _ _ _ h
    · rcases nIs_shape hv with ⟨rfl, rfl⟩ | ⟨y, u, rfl, rfl⟩
      · exact SeqAt.EqAt.str_none x t _ _ _ _ h
      · have e : decide (some x = some y) = decide (x = y) := by simp
        rw [e] at h
        exact wpAny_eqBool_str h
  «strs» := fun k x t v h => by
    rcases nIs_shape h with ⟨_, e⟩ | ⟨y, u, rfl, e⟩
    · exact nomatch e
    · injection e with e1 _
      subst e1
      cases v <;> rfl
def nV : Option Str → V
  | none => .non
  | some x => .str x
theorem nV_is {k : Option Str} {v : Value} (r : RelV (nV k) v) : nIs k v = true := by
  cases k with
  | none =>
    have e : v = Value.none := r
    subst e
    rfl
  | some x =>
    obtain ⟨t, e⟩ := (show ∃ t, v = Value.str x t from r)
    subst e
    simp [nIs, Value.isStrOf]
def ndP (P : Program) (w : World) (a : Addr) (ks : List (Option Str)) : Heap → Prop := fun h => (a == sysModules) = false ∧ ∃ vs : List (Option Str × Value), vs.map (·.1) = ks ∧ vs.length ≤ sizeLine ∧ h.DictOf (nKind P w) a vs
def ndO (P : Program) (w : World) (a : Addr) (ks : List (Option Str)) : HO := .ext (ndP P w a ks)
theorem nd_ok {P : Program} {w : World} {a : Addr} {ks : List (Option Str)} {H : Hp} {h : Heap} (p : ndP P w a ks h) : ObjOk P w H h a (ndO P w a ks) := by
  refine ⟨p, ?_, fun h1 h2 q k => ?_⟩
  · obtain ⟨_, vs, _, _, o, es, ep, ho, _⟩ := p
    exact ⟨o, ho⟩
  · obtain ⟨e, vs, e1, e2, o, es, ep, ho, r⟩ := q
    exact ⟨e, vs, e1, e2, o, es, ep, k _ ho, r⟩
theorem nd_at {P : Program} {w : World} {a : Addr} {ks : List (Option Str)} {H : Hp} {h : Heap} (ok : HOk P w H h) (e : H a = some (ndO P w a ks)) : ndP P w a ks h := (show ObjOk P w H h a (ndO P w a ks) from ok a _ e).1
def addN (ks : List (Option Str)) (k : Option Str) : List (Option Str) := if k ∈ ks then ks else ks ++ [k]
theorem stored_keys {k : Option Str} {v : Value} (vs : List (Option Str × Value)) : (stored vs k v).map (·.1) = addN (vs.map (·.1)) k := by
  unfold stored addN
  by_cases h : k ∈ vs.map (·.1)
  · have e : (vs.any fun kv => decide (kv.1 = k)) = true := by
      obtain ⟨p, hp, hp2⟩ := List.mem_map.mp h
      exact List.any_eq_true.mpr ⟨p, hp, decide_eq_true hp2⟩
    rw [if_pos h, if_pos e, List.map_map]
    refine List.map_congr_left fun p _ => ?_
    show (if p.1 = k then (p.1, v) else p).1 = p.1
    split <;> rfl
  · have e : (vs.any fun kv => decide (kv.1 = k)) = false := by
      rw [List.any_eq_false]
      intro p hp z
      exact h (List.mem_map.mpr ⟨p, hp, of_decide_eq_true z⟩)
    rw [if_neg h, e]
    simp
theorem stored_len {k : Option Str} {v : Value} (vs : List (Option Str × Value)) : (stored vs k v).length ≤ vs.length + 1 := by
  unfold stored
  split <;> simp
theorem at_keys {k : Option Str} (vs : List (Option Str × Value)) : (valueAt vs k).isSome = decide (k ∈ vs.map (·.1)) := by
  unfold valueAt
  rw [Option.isSome_map]
  by_cases h : k ∈ vs.map (·.1)
  · rw [decide_eq_true h]
    obtain ⟨p, hp, hp2⟩ := List.mem_map.mp h
    rw [List.find?_isSome]
    exact ⟨p, hp, decide_eq_true hp2⟩
  · rw [decide_eq_false h]
    cases q : vs.find? fun kv => decide (kv.1 = k) with
    | none => rfl
    | some p =>
      have := List.find?_some q
      exact absurd (List.mem_map.mpr ⟨p, List.mem_of_find?_eq_some q, of_decide_eq_true this⟩) h
section
variable {X : Cx}
/-- k in d, k not in d -/
def rInN (P : Program) (w : World) (f : Bool → Bool) : R2 := fun x y H Q => ∃ k a ks, x = nV k ∧ y = .ref a ∧ H a = some (ndO P w a ks) ∧ Q (.bl (f (decide (k ∈ ks)))) H
theorem op_inN : OpR X (compareOp .In) (rInN X.prog X.w id) := by
  intro pins s σ H x y v u Q I rx ry h
  obtain ⟨k, a, ks, rfl, rfl, e, q⟩ := h
  obtain rfl : u = Value.ref a := ry
  obtain ⟨hd, vs, rfl, hl, dd⟩ := nd_at I.hok e
  refine wpAny_in_of (nV_is rx) hd dd.mapOf ?_
  rw [at_keys]
  exact ⟨.bl _, H, I.tok _, rfl, q⟩
theorem op_notInN : OpR X (compareOp .NotIn) (rInN X.prog X.w (!·)) := by
  intro pins s σ H x y v u Q I rx ry h
  obtain ⟨k, a, ks, rfl, rfl, e, q⟩ := h
  obtain rfl : u = Value.ref a := ry
  obtain ⟨hd, vs, rfl, hl, dd⟩ := nd_at I.hok e
  refine wpAny_notIn_of (nV_is rx) hd dd.mapOf ?_
  rw [at_keys]
  exact ⟨.bl _, H, I.tok _, rfl, q⟩
/-- d[k] = e -/
def sNPut (P : Program) (w : World) (td ty tv : TE) : TS := fun D σ H => tv σ H fun v H1 => td σ H1 fun x H2 => ty σ H2 fun y H3 => ∃ a k ks, x = .ref a ∧ y = nV k ∧ H3 a = some (ndO P w a ks) ∧ ks.length < sizeLine ∧ D.nx σ (upd H3 a (ndO P w a (addN ks k)))
theorem ps_nput {o i value : Expr} {td ty tv : TE} {pos pos' : Pos} (ho : PE X o td) (hi : PE X i ty) (hv : PE X value tv) (hs : swapsWith value (some (.Subscript o i pos')) pos.line X.env = pure false := by rfl) :
    PS X (.Assign [.Subscript o i pos'] value pos) (sNPut X.prog X.w td ty tv) := by
  refine ⟨fun pins s σ H D I h => ?_⟩
  refine wpAny_Assign_Subscript (thn (hv.run pins s σ H _ I h) fun r s1 ⟨v, H1, I1, rv, q1⟩ => thn (ho.run pins s1 σ H1 _ I1 q1) fun u s2 ⟨x, H2, I2, rx, q2⟩ => thn (hi.run pins s2 σ H2 _ I2 q2) fun iv s3 ⟨y, H3, I3, ry, a, k, ks, ex, ey, e, hl, q3⟩ => ?_) hs
  subst ex ey
  obtain rfl : u = Value.ref a := rx
  obtain ⟨hd, vs, rfl, hz, dd⟩ := nd_at I3.hok e
  rw [List.length_map] at hl
  refine wpAny_setItem_pairs (hsz := hz) (nV_is ry) dd fun h' dd' hs' => ⟨σ, _, ?_, q3⟩
  have he : ∃ q, h'.get? a = some q := let ⟨q, _, _, hq, _⟩ := dd'; ⟨q, hq⟩
  exact d_write I3 (by rw [e]; exact True.intro) hs' he (nd_ok ⟨hd, _, stored_keys vs, by have := stored_len (k := k) (v := r) vs; omega, dd'⟩)
/-- {None: e} -/
def tNDisp (P : Program) (w : World) (tv : TE) : TE := fun σ H Q => ∀ p, H p = none → tPairs [(tC .non, tv)] σ (upd H p (ndO P w p [])) fun ps H2 => H2 p = some (ndO P w p []) ∧ (∃ y, ps = [(.non, y)]) ∧ Q (.ref p) (upd H2 p (ndO P w p [none]))
theorem pe_ndisp {pos p1 : Pos} {j : Nat} {v : Expr} {tv : TE} (hv : PE X v tv) : PE X (.Dict [some (.Constant .none j p1)] [v] pos) (tNDisp X.prog X.w tv) := by
  refine ⟨fun pins s σ H Q I q => ?_⟩
  have hn := I.hok.fresh (Nat.le_refl s.heap.objs.size)
  have I1 := I.laid (a := s.heap.objs.size) (o := ndO X.prog X.w s.heap.objs.size []) (h' := s.heap.push { cls := .type "dict", data := .dict #[] }) (t' := s.toks) (fun _ _ q => Heap.get?_push_of_some _ q) (Nat.le_refl _)
    (nd_ok ⟨beq_eq_false_iff_ne.mpr (Ne.symm (Nat.ne_of_lt I.big)), [], rfl, Nat.zero_le _, Heap.DictOf.new s.heap⟩)
  have pp : PPs X pos [some (.Constant .none j p1)] [v] [(tC .non, tv)] := pps_cons pe_non hv pps_nil
  refine wpAny_Dict_walk (knd := nKind X.prog X.w) rfl rfl (by simp) (by simp) (thn (pp.run pins _ σ _ _ I1 (q _ hn)) fun ws s2 ⟨ps, H2, I2, rel, e, hy, q2⟩ => ?_)
  obtain ⟨y, rfl⟩ := hy
  cases rel with
  | @cons _ b _ bs r t =>
    cases t
    obtain ⟨b1, b2⟩ := b
    have e1 : b1 = Value.none := r.1
    subst e1
    obtain ⟨hd, vs, e2, hz, dd⟩ := nd_at I2.hok e
    have e3 : vs = [] := List.map_eq_nil_iff.mp e2
    subst e3
    refine ⟨[(none, b2)], ⟨rfl, rfl, True.intro⟩, dd, fun h' dd' hs => ⟨.ref s.heap.objs.size, _, ?_, rfl, q2⟩⟩
    have he : ∃ q, h'.get? s.heap.objs.size = some q := let ⟨q, _, _, hq, _⟩ := dd'; ⟨q, hq⟩
    exact d_write I2 (by rw [e]; exact True.intro) hs he (nd_ok ⟨hd, _, rfl, by rw [sizeLine_eq]; exact Nat.le_of_ble_eq_true rfl, dd'⟩)
end
end AB

set_option Elab.async false
set_option linter.all false
set_option maxRecDepth 100000
set_option maxHeartbeats 4000000
set_option autoImplicit false
/-! An abstract layer over the hand layer: what a def does, said of plain data and of numbered own objects; no heap in sight. -/
namespace AB
open PySem L2
abbrev St := L2.St

/-! ### data -/
inductive D where
  | non | bl (b : Bool) | int (i : Int) | str (x : Str) | tup (l : List D) | lst (l : List D)
  | dic (l : List (Key × D)) | ins (C : Addr) (l : List (Str × D)) | exc (a dd : Addr) (l : List (Str × D)) | raw (v : V)
mutual
inductive Rep (F : Hp) : V → D → Prop
  | non : Rep F .non .non
  | bl (b : Bool) : Rep F (.bl b) (.bl b)
  | int (i : Int) : Rep F (.int i) (.int i)
  | str (x : Str) : Rep F (.str x) (.str x)
  | raw (v : V) : Rep F v (.raw v)
  | tup {a : Addr} {xs : List V} {ds : List D} : F a = some (.tup xs) → RepL F xs ds → Rep F (.ref a) (.tup ds)
  | lst {a : Addr} {xs : List V} {ds : List D} : F a = some (.lst xs) → RepL F xs ds → Rep F (.ref a) (.lst ds)
  | dic {a : Addr} {ks : List (Key × V)} {ds : List (Key × D)} : F a = some (.dK ks) → RepK F ks ds → Rep F (.ref a) (.dic ds)
  | ins {a C dx : Addr} {fs : List (Str × V)} {ds : List (Str × D)} : F a = some (.ins C dx fs) → RepF F fs ds → Rep F (.ref a) (.ins C ds)
  | exc {a dd : Addr} {fs : List (Str × V)} {ds : List (Str × D)} : F dd = some (.xd fs) → RepF F fs ds → Rep F (.ref a) (.exc a dd ds)
inductive RepL (F : Hp) : List V → List D → Prop
  | nil : RepL F [] []
  | cons {v : V} {vs : List V} {d : D} {ds : List D} : Rep F v d → RepL F vs ds → RepL F (v :: vs) (d :: ds)
inductive RepK (F : Hp) : List (Key × V) → List (Key × D) → Prop
  | nil : RepK F [] []
  | cons {k : Key} {v : V} {vs : List (Key × V)} {d : D} {ds : List (Key × D)} : Rep F v d → RepK F vs ds → RepK F ((k, v) :: vs) ((k, d) :: ds)
inductive RepF (F : Hp) : List (Str × V) → List (Str × D) → Prop
  | nil : RepF F [] []
  | cons {k : Str} {v : V} {vs : List (Str × V)} {d : D} {ds : List (Str × D)} : Rep F v d → RepF F vs ds → RepF F ((k, v) :: vs) ((k, d) :: ds)
end
def Ex (H H' : Hp) : Prop := ∀ a o, H a = some o → H' a = some o
theorem Ex.refl (H : Hp) : Ex H H := fun _ _ h => h
theorem Ex.trans {H H1 H2 : Hp} (a : Ex H H1) (b : Ex H1 H2) : Ex H H2 := fun x o h => b x o (a x o h)
theorem Ex.new {H : Hp} {p : Addr} {o : HO} (h : H p = none) : Ex H (upd H p o) := fun a u e => by
  rw [upd_ne (ne_of_none e h)]
  exact e
mutual
theorem Rep.mono {F F' : Hp} (e : Ex F F') : ∀ {v : V} {d : D}, Rep F v d → Rep F' v d
  | _, _, .non => .non
  | _, _, .bl b => .bl b
  | _, _, .int i => .int i
  | _, _, .str x => .str x
  | _, _, .raw v => .raw v
  | _, _, .tup h r => .tup (e _ _ h) (RepL.mono e r)
  | _, _, .lst h r => .lst (e _ _ h) (RepL.mono e r)
  | _, _, .dic h r => .dic (e _ _ h) (RepK.mono e r)
  | _, _, .ins h r => .ins (e _ _ h) (RepF.mono e r)
  | _, _, .exc h r => .exc (e _ _ h) (RepF.mono e r)
theorem RepL.mono {F F' : Hp} (e : Ex F F') : ∀ {vs : List V} {ds : List D}, RepL F vs ds → RepL F' vs ds
  | _, _, .nil => .nil
  | _, _, .cons h r => .cons (Rep.mono e h) (RepL.mono e r)
theorem RepK.mono {F F' : Hp} (e : Ex F F') : ∀ {vs : List (Key × V)} {ds : List (Key × D)}, RepK F vs ds → RepK F' vs ds
  | _, _, .nil => .nil
  | _, _, .cons h r => .cons (Rep.mono e h) (RepK.mono e r)
theorem RepF.mono {F F' : Hp} (e : Ex F F') : ∀ {vs : List (Str × V)} {ds : List (Str × D)}, RepF F vs ds → RepF F' vs ds
  | _, _, .nil => .nil
  | _, _, .cons h r => .cons (Rep.mono e h) (RepF.mono e r)
end
theorem RepL.len {F : Hp} {vs : List V} {ds : List D} : RepL F vs ds → vs.length = ds.length
  | .nil => rfl
  | .cons _ r => congrArg (· + 1) (RepL.len r)
theorem RepL.get {F : Hp} : ∀ {vs : List V} {ds : List D} {i : Nat} {v : V}, RepL F vs ds → vs[i]? = some v → ∃ d, ds[i]? = some d ∧ Rep F v d
  | _, _, i, _, .nil, e => by simp at e
  | _, _, 0, _, .cons h _, e => by simp at e; subst e; exact ⟨_, rfl, h⟩
  | _, _, i + 1, _, .cons _ r, e => by
    have e' := e
    simp only [List.getElem?_cons_succ] at e' ⊢
    exact RepL.get r e'
theorem RepL.got {F : Hp} : ∀ {vs : List V} {ds : List D} {i : Nat} {d : D}, RepL F vs ds → ds[i]? = some d → ∃ v, vs[i]? = some v ∧ Rep F v d
  | _, _, i, _, .nil, e => by simp at e
  | _, _, 0, _, .cons h _, e => by simp at e; subst e; exact ⟨_, rfl, h⟩
  | _, _, i + 1, _, .cons _ r, e => by
    have e' := e
    simp only [List.getElem?_cons_succ] at e' ⊢
    exact RepL.got r e'
theorem RepL.app {F : Hp} {vs ws : List V} {ds es : List D} : RepL F vs ds → RepL F ws es → RepL F (vs ++ ws) (ds ++ es)
  | .nil, r => r
  | .cons h t, r => .cons h (RepL.app t r)
theorem RepL.take {F : Hp} : ∀ {vs : List V} {ds : List D} (n : Nat), RepL F vs ds → RepL F (vs.take n) (ds.take n)
  | _, _, 0, _ => by simpa using RepL.nil
  | _, _, n + 1, .nil => .nil
  | _, _, n + 1, .cons h r => .cons h (RepL.take n r)
theorem RepL.drop {F : Hp} : ∀ {vs : List V} {ds : List D} (n : Nat), RepL F vs ds → RepL F (vs.drop n) (ds.drop n)
  | _, _, 0, r => r
  | _, _, n + 1, .nil => .nil
  | _, _, n + 1, .cons h r => RepL.drop n r
/-! ### to the model's own data -/
mutual
def D.py : D → PyData
  | .non => .none
  | .bl b => .bool b
  | .int i => .int i
  | .str x => .str x
  | .tup l => .tuple (D.pyL l)
  | .lst l => .list (D.pyL l)
  | _ => .dict []
def D.pyL : List D → List PyData
  | [] => []
  | d :: r => D.py d :: D.pyL r
end
mutual
theorem Rep.dp {K : PySem.W.Frag} {F : Hp} : ∀ {v : V} {d : D}, Rep F v d → d.py.plain = true → Dp K F v d.py
  | _, _, .non, _ => .non
  | _, _, .bl b, _ => .bl b
  | _, _, .int i, _ => .int i
  | _, _, .str x, _ => .str x
  | _, _, .raw v, h => by simp [D.py, PyData.plain] at h
  | _, _, .tup h r, p => by
    rw [D.py] at p ⊢
    exact .tup (SqT.of h) (RepL.dp r (by simpa [PyData.plain] using p))
  | _, _, .lst h r, p => by
    rw [D.py] at p ⊢
    exact .lst (SqL.of h) (RepL.dp r (by simpa [PyData.plain] using p))
  | _, _, .dic h r, p => by simp [D.py, PyData.plain] at p
  | _, _, .ins h r, p => by simp [D.py, PyData.plain] at p
  | _, _, .exc h r, p => by simp [D.py, PyData.plain] at p
theorem RepL.dp {K : PySem.W.Frag} {F : Hp} : ∀ {vs : List V} {ds : List D}, RepL F vs ds → PyData.plainAll (D.pyL ds) = true → DpAll K F vs (D.pyL ds)
  | _, _, .nil, _ => by rw [D.pyL]; exact .nil
  | _, _, .cons h r, p => by
    rw [D.pyL, PyData.plainAll, Bool.and_eq_true] at p
    rw [D.pyL]
    exact .cons (Rep.dp h p.1) (RepL.dp r p.2)
end
/-! ### own objects, numbered -/
inductive Sl where
  | da (d : D) | ow (j : Nat)
inductive OO where
  | gone | lst (l : List Sl) | dic (l : List (Key × Sl)) | ins (C : Addr) (l : List (Str × Sl)) | nd (P : Program) (w : World) (ks : List (Option Str))
abbrev R := List (Option Sl)
abbrev O := List OO
def RepS (F : Hp) (θ : List Addr) (v : V) : Sl → Prop
  | .da d => Rep F v d
  | .ow j => ∃ a, v = .ref a ∧ θ[j]? = some a
theorem RepS.dat {F : Hp} {θ : List Addr} {v : V} {d : D} (h : Rep F v d) : RepS F θ v (.da d) := h
theorem RepS.own {F : Hp} {θ : List Addr} {a : Addr} {j : Nat} (h : θ[j]? = some a) : RepS F θ (.ref a) (.ow j) := ⟨a, rfl, h⟩
abbrev RepSL (F : Hp) (θ : List Addr) : List V → List Sl → Prop := Paired (RepS F θ)
abbrev RepSK (F : Hp) (θ : List Addr) : List (Key × V) → List (Key × Sl) → Prop := Paired fun p q => p.1 = q.1 ∧ RepS F θ p.2 q.2
abbrev RepSF (F : Hp) (θ : List Addr) : List (Str × V) → List (Str × Sl) → Prop := Paired fun p q => p.1 = q.1 ∧ RepS F θ p.2 q.2
def RepO (F H : Hp) (θ : List Addr) (a : Addr) : OO → Prop
  | .gone => ∃ o, H a = some o
  | .lst l => ∃ xs, H a = some (.lst xs) ∧ RepSL F θ xs l
  | .dic l => ∃ ks, H a = some (.dK ks) ∧ RepSK F θ ks l
  | .ins C l => ∃ dx fs, H a = some (.ins C dx fs) ∧ RepSF F θ fs l
  | .nd P w ks => H a = some (ndO P w a ks)
theorem Paired.mono {α β : Type} {P Q : α → β → Prop} (h : ∀ a b, P a b → Q a b) : ∀ {xs : List α} {ys : List β}, Paired P xs ys → Paired Q xs ys
  | _, _, .nil => .nil
  | _, _, .cons r t => .cons (h _ _ r) (Paired.mono h t)
theorem RepS.mono {F F' : Hp} {θ θ' : List Addr} {v : V} {s : Sl} (e : Ex F F') (p : ∃ t, θ' = θ ++ t) (h : RepS F θ v s) : RepS F' θ' v s := by
  cases s with
  | da d => exact Rep.mono e h
  | ow j =>
    obtain ⟨a, rfl, ha⟩ := h
    obtain ⟨t, rfl⟩ := p
    exact ⟨a, rfl, by rw [List.getElem?_append_left (List.getElem?_eq_some_iff.mp ha).1]; exact ha⟩
theorem RepSL.mono {F F' : Hp} {θ θ' : List Addr} {v : List V} {s : List Sl} (e : Ex F F') (p : ∃ t, θ' = θ ++ t) (h : RepSL F θ v s) : RepSL F' θ' v s := Paired.mono (fun _ _ r => RepS.mono e p r) h
theorem RepO.mono {F F' H : Hp} {θ θ' : List Addr} {a : Addr} {o : OO} (e : Ex F F') (p : ∃ t, θ' = θ ++ t) (h : RepO F H θ a o) : RepO F' H θ' a o := by
  cases o with
  | gone => exact h
  | lst l => obtain ⟨xs, h1, h2⟩ := h; exact ⟨xs, h1, h2.mono e p⟩
  | dic l => obtain ⟨xs, h1, h2⟩ := h; exact ⟨xs, h1, Paired.mono (fun _ _ r => ⟨r.1, r.2.mono e p⟩) h2⟩
  | ins C l => obtain ⟨dx, xs, h1, h2⟩ := h; exact ⟨dx, xs, h1, Paired.mono (fun _ _ r => ⟨r.1, r.2.mono e p⟩) h2⟩
  | nd P w ks => exact h
theorem RepO.at {F H H' : Hp} {θ : List Addr} {a : Addr} {o : OO} (e : ∀ u, H a = some u → H' a = some u) (h : RepO F H θ a o) : RepO F H' θ a o := by
  cases o with
  | gone => obtain ⟨u, h⟩ := h; exact ⟨u, e u h⟩
  | lst l => obtain ⟨xs, h1, h2⟩ := h; exact ⟨xs, e _ h1, h2⟩
  | dic l => obtain ⟨xs, h1, h2⟩ := h; exact ⟨xs, e _ h1, h2⟩
  | ins C l => obtain ⟨dx, xs, h1, h2⟩ := h; exact ⟨dx, xs, e _ h1, h2⟩
  | nd P w ks => exact e _ h
theorem RepO.some {F H : Hp} {θ : List Addr} {a : Addr} {o : OO} (h : RepO F H θ a o) : ∃ u, H a = some u := by
  cases o with
  | gone => exact h
  | lst l => obtain ⟨xs, h1, h2⟩ := h; exact ⟨_, h1⟩
  | dic l => obtain ⟨xs, h1, h2⟩ := h; exact ⟨_, h1⟩
  | ins C l => obtain ⟨dx, xs, h1, h2⟩ := h; exact ⟨_, h1⟩
  | nd P w ks => exact ⟨_, h⟩
/-- from one state to a later one -/
structure Tw (F H : Hp) (θ : List Addr) (F' H' : Hp) (θ' : List Addr) : Prop where
  ff : Ex F F'
  pre : ∃ t, θ' = θ ++ t
  kp : ∀ a o, H a = some o → a ∉ θ → H' a = some o
  th : ∀ a, H' a = none → H a = none
  nt : ∀ a, a ∈ θ' → a ∈ θ ∨ H a = none
  nf : ∀ a o, a ∉ θ → F a = none → H a = some o → F' a = none
/-- .. and nothing that was known comes to stay -/
structure Tr (F H : Hp) (θ : List Addr) (F' H' : Hp) (θ' : List Addr) : Prop where
  ff : Ex F F'
  pre : ∃ t, θ' = θ ++ t
  kp : ∀ a o, H a = some o → a ∉ θ → H' a = some o
  th : ∀ a, H' a = none → H a = none
  nw : ∀ a o, F' a = some o → (∃ u, F a = some u) ∨ H a = none
  nt : ∀ a, a ∈ θ' → a ∈ θ ∨ H a = none
theorem Tr.w {F H : Hp} {θ : List Addr} {F' H' : Hp} {θ' : List Addr} (x : Tr F H θ F' H' θ') : Tw F H θ F' H' θ' := ⟨x.ff, x.pre, x.kp, x.th, x.nt, fun a o _ h1 h2 => by
  cases q : F' a with
  | none => rfl
  | some w =>
    rcases x.nw a w q with ⟨u, z⟩ | z
    · rw [h1] at z; cases z
    · rw [h2] at z; cases z⟩
theorem Tr.refl (F H : Hp) (θ : List Addr) : Tr F H θ F H θ :=
  ⟨Ex.refl F, ⟨[], by simp⟩, fun _ _ h _ => h, fun _ h => h, fun _ o h => .inl ⟨o, h⟩, fun _ h => .inl h⟩
theorem Tw.refl (F H : Hp) (θ : List Addr) : Tw F H θ F H θ := (Tr.refl F H θ).w
theorem Tw.trans {F H F1 H1 F2 H2 : Hp} {θ θ1 θ2 : List Addr} (x : Tw F H θ F1 H1 θ1) (y : Tw F1 H1 θ1 F2 H2 θ2) : Tw F H θ F2 H2 θ2 where
  ff := x.ff.trans y.ff
  pre := by
    obtain ⟨t, rfl⟩ := x.pre
    obtain ⟨u, rfl⟩ := y.pre
    exact ⟨t ++ u, by rw [List.append_assoc]⟩
  kp := fun a o h n => y.kp a o (x.kp a o h n) fun z => by
    rcases x.nt a z with q | q
    · exact n q
    · rw [q] at h; cases h
  th := fun a h => x.th a (y.th a h)
  nt := fun a h => by
    rcases y.nt a h with q | q
    · exact x.nt a q
    · exact .inr (x.th a q)
  nf := fun a o h h1 h2 => y.nf a o (fun z => by
    rcases x.nt a z with q | q
    · exact h q
    · rw [h2] at q; cases q) (x.nf a o h h1 h2) (x.kp a o h2 h)
theorem Tr.trans {F H F1 H1 F2 H2 : Hp} {θ θ1 θ2 : List Addr} (x : Tr F H θ F1 H1 θ1) (y : Tr F1 H1 θ1 F2 H2 θ2) : Tr F H θ F2 H2 θ2 :=
  let z := x.w.trans y.w
  ⟨z.ff, z.pre, z.kp, z.th, fun a o h => by
    rcases y.nw a o h with ⟨u, q⟩ | q
    · exact x.nw a u q
    · exact .inr (x.th a q), z.nt⟩
structure Base where
  F : Hp
  H : Hp
  θ : List Addr
structure Sls (F : Hp) (θ : List Addr) (σ : St) (ρ : R) : Prop where
  len : σ.length = ρ.length
  at_ : ∀ (i : Nat) (s : Sl), ρ[i]? = some (some s) → ∃ v, σ[i]? = some (some v) ∧ RepS F θ v s
/-- F: what stays; H: all that is tracked; θ: the own objects' places; σ: the slots; ρ, o: the same as data -/
structure Ok (B : Base) (F H : Hp) (θ : List Addr) (σ : St) (ρ : R) (o : O) : Prop where
  tr : Tr B.F B.H B.θ F H θ
  fh : Ex F H
  len : θ.length = o.length
  nd : θ.Nodup
  fr : ∀ (j : Nat) a u, θ[j]? = some a → o[j]? = some u → u ≠ .gone → F a = none
  ob : ∀ (j : Nat) a u, θ[j]? = some a → o[j]? = some u → RepO F H θ a u
  sl : Sls F θ σ ρ
theorem Sls.mono {F F' : Hp} {θ θ' : List Addr} {σ : St} {ρ : R} (e : Ex F F') (p : ∃ t, θ' = θ ++ t) (h : Sls F θ σ ρ) : Sls F' θ' σ ρ :=
  ⟨h.len, fun i s q => by
    obtain ⟨v, h1, h2⟩ := h.at_ i s q
    exact ⟨v, h1, h2.mono e p⟩⟩
theorem Sls.set {F : Hp} {θ : List Addr} {σ : St} {ρ : R} {i : Nat} {v : V} {s : Sl} (h : Sls F θ σ ρ) (r : RepS F θ v s) : Sls F θ (σ.set i (some v)) (ρ.set i (some s)) :=
  ⟨by simp [h.len], fun j u q => by
    by_cases e : i = j
    · subst e
      have hl : i < ρ.length := by
        have := (List.getElem?_eq_some_iff.mp q).1
        simpa using this
      rw [List.getElem?_set_self hl] at q
      have q' : s = u := by simpa using q
      subst q'
      exact ⟨v, by rw [List.getElem?_set_self (by rw [h.len]; exact hl)], r⟩
    · rw [List.getElem?_set_ne e] at q ⊢
      exact h.at_ j u q⟩
theorem Sls.none {F : Hp} {θ : List Addr} {σ : St} {ρ : R} {i : Nat} (h : Sls F θ σ ρ) (x : Option V) : Sls F θ (σ.set i x) (ρ.set i none) :=
  ⟨by simp [h.len], fun j u q => by
    by_cases e : i = j
    · subst e
      have hl : i < ρ.length := by
        have := (List.getElem?_eq_some_iff.mp q).1
        simpa using this
      rw [List.getElem?_set_self hl] at q
      cases q
    · rw [List.getElem?_set_ne e] at q ⊢
      exact h.at_ j u q⟩
theorem Ok.own {B : Base} {F H : Hp} {θ : List Addr} {σ : St} {ρ : R} {o : O} (k : Ok B F H θ σ ρ o) {j : Nat} {u : OO} (h : o[j]? = some u) : ∃ a, θ[j]? = some a ∧ RepO F H θ a u := by
  have hl : j < θ.length := by rw [k.len]; exact (List.getElem?_eq_some_iff.mp h).1
  exact ⟨θ[j], List.getElem?_eq_getElem hl, k.ob j _ u (List.getElem?_eq_getElem hl) h⟩
theorem Ok.mem {B : Base} {F H : Hp} {θ : List Addr} {σ : St} {ρ : R} {o : O} (k : Ok B F H θ σ ρ o) {a : Addr} (h : a ∈ θ) : ∃ u, H a = some u := by
  obtain ⟨j, hj, e⟩ := List.getElem_of_mem h
  have hj2 : j < o.length := by rw [← k.len]; exact hj
  have ho : o[j]? = some (o[j]) := List.getElem?_eq_getElem hj2
  exact (k.ob j a _ (by rw [List.getElem?_eq_getElem hj, e]) ho).some
/-- a later state of another kind, its slots kept -/
theorem Ok.slots {B : Base} {F H : Hp} {θ : List Addr} {σ σ' : St} {ρ ρ' : R} {o : O} (k : Ok B F H θ σ ρ o) (s : Sls F θ σ' ρ') : Ok B F H θ σ' ρ' o :=
  ⟨k.tr, k.fh, k.len, k.nd, k.fr, k.ob, s⟩
/-- a new object that stays -/
theorem Ok.put {B : Base} {F H : Hp} {θ : List Addr} {σ : St} {ρ : R} {o : O} {p : Addr} {u : HO} (k : Ok B F H θ σ ρ o) (n : H p = none) :
    Tr F H θ (upd F p u) (upd H p u) θ ∧ Ok B (upd F p u) (upd H p u) θ σ ρ o := by
  have nf : F p = none := by
    cases q : F p with
    | none => rfl
    | some w => have := k.fh p w q; rw [n] at this; cases this
  have np : p ∉ θ := fun h => by
    obtain ⟨w, hw⟩ := k.mem h
    rw [n] at hw; cases hw
  have t : Tr F H θ (upd F p u) (upd H p u) θ := {
    ff := Ex.new nf
    pre := ⟨[], by simp⟩
    kp := fun a w h _ => Ex.new n a w h
    th := fun a h => by
      by_cases e : a = p
      · subst e; exact n
      · rwa [upd_ne e] at h
    nw := fun a w h => by
      by_cases e : a = p
      · subst e; exact .inr n
      · rw [upd_ne e] at h; exact .inl ⟨w, h⟩
    nt := fun a h => .inl h }
  refine ⟨t, k.tr.trans t, fun a w h => ?_, k.len, k.nd, fun j a w h1 h2 h3 => ?_, fun j a w h1 h2 => ?_, k.sl.mono t.ff t.pre⟩
  · by_cases e : a = p
    · subst e; rw [upd_same] at h ⊢; exact h
    · rw [upd_ne e] at h ⊢; exact k.fh a w h
  · have e : a ≠ p := fun e => np (e ▸ List.mem_of_getElem? h1)
    rw [upd_ne e]
    exact k.fr j a w h1 h2 h3
  · exact ((k.ob j a w h1 h2).mono t.ff t.pre).at fun w' h => Ex.new n a w' h
/-- a new own object -/
theorem Ok.lay {B : Base} {F H : Hp} {θ : List Addr} {σ : St} {ρ : R} {o : O} {p : Addr} {u : HO} {w : OO} (k : Ok B F H θ σ ρ o) (n : H p = none) (r : RepO F (upd H p u) (θ ++ [p]) p w) :
    Tr F H θ F (upd H p u) (θ ++ [p]) ∧ Ok B F (upd H p u) (θ ++ [p]) σ ρ (o ++ [w]) := by
  have nf : F p = none := by
    cases q : F p with
    | none => rfl
    | some w => have := k.fh p w q; rw [n] at this; cases this
  have np : p ∉ θ := fun h => by
    obtain ⟨w, hw⟩ := k.mem h
    rw [n] at hw; cases hw
  have t : Tr F H θ F (upd H p u) (θ ++ [p]) := {
    ff := Ex.refl F
    pre := ⟨[p], rfl⟩
    kp := fun a w h _ => Ex.new n a w h
    th := fun a h => by
      by_cases e : a = p
      · subst e; exact n
      · rwa [upd_ne e] at h
    nw := fun a w h => .inl ⟨w, h⟩
    nt := fun a h => by
      rcases List.mem_append.mp h with h | h
      · exact .inl h
      · have e : a = p := by simpa using h
        subst e; exact .inr n }
  have cut : ∀ (j : Nat) a w', (θ ++ [p])[j]? = some a → (o ++ [w])[j]? = some w' → (θ[j]? = some a ∧ o[j]? = some w') ∨ (a = p ∧ w' = w) := fun j a w' h1 h2 => by
    by_cases hj : j < θ.length
    · rw [List.getElem?_append_left hj] at h1
      rw [List.getElem?_append_left (by rw [← k.len]; exact hj)] at h2
      exact .inl ⟨h1, h2⟩
    · rw [List.getElem?_append_right (by omega)] at h1
      rw [List.getElem?_append_right (by rw [← k.len]; omega), ← k.len] at h2
      cases e : j - θ.length with
      | zero =>
        rw [e] at h1 h2
        simp at h1 h2
        exact .inr ⟨h1.symm, h2.symm⟩
      | succ m => rw [e] at h1; simp at h1
  refine ⟨t, k.tr.trans t, fun a w h => Ex.new n a w (k.fh a w h), by simp [k.len], ?_, fun j a w' h1 h2 h3 => ?_, fun j a w' h1 h2 => ?_, k.sl.mono t.ff t.pre⟩
  · rw [List.nodup_append]
    exact ⟨k.nd, by simp, fun a ha b hb e => by
      have e' : b = p := by simpa using hb
      rw [e, e'] at ha
      exact np ha⟩
  · rcases cut j a w' h1 h2 with ⟨h1, h2⟩ | ⟨rfl, rfl⟩
    · exact k.fr j a w' h1 h2 h3
    · exact nf
  · rcases cut j a w' h1 h2 with ⟨h1, h2⟩ | ⟨rfl, rfl⟩
    · exact ((k.ob j a w' h1 h2).mono t.ff t.pre).at fun w' h => Ex.new n a w' h
    · exact r
/-- an own object is changed -/
theorem Ok.chg {B : Base} {F H : Hp} {θ : List Addr} {σ : St} {ρ : R} {o : O} {j : Nat} {p : Addr} {u : HO} {w w0 : OO} (k : Ok B F H θ σ ρ o) (hj : θ[j]? = some p) (ho : o[j]? = some w0) (hg : w0 ≠ .gone)
    (r : RepO F (upd H p u) θ p w) (hw : w ≠ .gone) : Tr F H θ F (upd H p u) θ ∧ Ok B F (upd H p u) θ σ ρ (o.set j w) := by
  have nf : F p = none := k.fr j p w0 hj ho hg
  obtain ⟨old, hold⟩ := (k.ob j p w0 hj ho).some
  have t : Tr F H θ F (upd H p u) θ := {
    ff := Ex.refl F
    pre := ⟨[], by simp⟩
    kp := fun a v h n => by
      have ne : a ≠ p := fun e => n (by rw [e]; exact List.mem_of_getElem? hj)
      rw [upd_ne ne]
      exact h
    th := fun a h => by
      by_cases e : a = p
      · subst e; rw [upd_same] at h; cases h
      · rwa [upd_ne e] at h
    nw := fun a v h => .inl ⟨v, h⟩
    nt := fun a h => .inl h }
  have jl : j < o.length := (List.getElem?_eq_some_iff.mp ho).1
  have ne : ∀ (i : Nat) a, i ≠ j → θ[i]? = some a → a ≠ p := fun i a hi h e => hi (by
    obtain ⟨h1, e1⟩ := List.getElem?_eq_some_iff.mp h
    obtain ⟨h2, e2⟩ := List.getElem?_eq_some_iff.mp hj
    exact (List.getElem_inj k.nd).mp (e1.trans (e.trans e2.symm)))
  refine ⟨t, k.tr.trans t, fun a v h => ?_, by simp [k.len], k.nd, fun i a v h1 h2 h3 => ?_, fun i a v h1 h2 => ?_, k.sl⟩
  · rw [upd_ne (fun e => by rw [e, nf] at h; cases h)]
    exact k.fh a v h
  · by_cases e : i = j
    · subst e
      rw [hj] at h1; cases h1
      exact nf
    · rw [List.getElem?_set_ne (Ne.symm e)] at h2
      exact k.fr i a v h1 h2 h3
  · by_cases e : i = j
    · subst e
      rw [hj] at h1; cases h1
      rw [List.getElem?_set_self jl] at h2
      cases h2
      exact r
    · rw [List.getElem?_set_ne (Ne.symm e)] at h2
      exact (k.ob i a v h1 h2).at fun v' h => by rw [upd_ne (ne i a e h1)]; exact h
end AB

set_option Elab.async false
set_option linter.all false
set_option maxRecDepth 100000
set_option maxHeartbeats 4000000
set_option autoImplicit false
namespace AB
open PySem L2
/-! ### judgements over abstract states -/
def AE (B : Base) (te : TE) (ρ : R) (o : O) (P : Sl → O → Prop) : Prop :=
  ∀ F H θ σ, Ok B F H θ σ ρ o → ∀ Q : VK, (∀ v s F' H' θ' o', Tw F H θ F' H' θ' → Ok B F' H' θ' σ ρ o' → RepS F' θ' v s → P s o' → Q v H') → te σ H Q
def AT (B : Base) (t : TT) (ρ : R) (o : O) (P : Bool → O → Prop) : Prop :=
  ∀ F H θ σ, Ok B F H θ σ ρ o → ∀ Q : Bool → Hp → Prop, (∀ b F' H' θ' o', Tw F H θ F' H' θ' → Ok B F' H' θ' σ ρ o' → P b o' → Q b H') → t σ H Q
def AA (B : Base) (ta : TA) (ρ : R) (o : O) (P : List Sl → O → Prop) : Prop :=
  ∀ F H θ σ, Ok B F H θ σ ρ o → ∀ Q : List V → Hp → Prop, (∀ vs ss F' H' θ' o', Tw F H θ F' H' θ' → Ok B F' H' θ' σ ρ o' → RepSL F' θ' vs ss → P ss o' → Q vs H') → ta σ H Q
/-- by values: two places, one, many -/
def A2 (B : Base) (r : R2) (x y : Sl) (o : O) (P : Sl → O → Prop) : Prop :=
  ∀ F H θ σ ρ v u, Ok B F H θ σ ρ o → RepS F θ v x → RepS F θ u y → ∀ Q : VK, (∀ w s F' H' θ' o', Tw F H θ F' H' θ' → Ok B F' H' θ' σ ρ o' → RepS F' θ' w s → P s o' → Q w H') → r v u H Q
def A1 (B : Base) (r : V → Hp → VK → Prop) (x : Sl) (o : O) (P : Sl → O → Prop) : Prop :=
  ∀ F H θ σ ρ v, Ok B F H θ σ ρ o → RepS F θ v x → ∀ Q : VK, (∀ w s F' H' θ' o', Tw F H θ F' H' θ' → Ok B F' H' θ' σ ρ o' → RepS F' θ' w s → P s o' → Q w H') → r v H Q
def AN (B : Base) (r : List V → Hp → VK → Prop) (xs : List Sl) (o : O) (P : Sl → O → Prop) : Prop :=
  ∀ F H θ σ ρ vs, Ok B F H θ σ ρ o → RepSL F θ vs xs → ∀ Q : VK, (∀ w s F' H' θ' o', Tw F H θ F' H' θ' → Ok B F' H' θ' σ ρ o' → RepS F' θ' w s → P s o' → Q w H') → r vs H Q
def AM (B : Base) (r : V → List V → Hp → VK → Prop) (x : Sl) (xs : List Sl) (o : O) (P : Sl → O → Prop) : Prop :=
  ∀ F H θ σ ρ v vs, Ok B F H θ σ ρ o → RepS F θ v x → RepSL F θ vs xs → ∀ Q : VK, (∀ w s F' H' θ' o', Tw F H θ F' H' θ' → Ok B F' H' θ' σ ρ o' → RepS F' θ' w s → P s o' → Q w H') → r v vs H Q
structure AD where
  nx : R → O → Prop
  rt : Sl → O → Prop
  bk : R → O → Prop := fun _ _ => False
  ct : R → O → Prop := fun _ _ => False
structure Sat (B : Base) (F H : Hp) (θ : List Addr) (D : AD) (E : Ends) : Prop where
  nx : ∀ F' H' θ' σ ρ o, Tw F H θ F' H' θ' → Ok B F' H' θ' σ ρ o → D.nx ρ o → E.nx σ H'
  rt : ∀ F' H' θ' σ ρ o v s, Tw F H θ F' H' θ' → Ok B F' H' θ' σ ρ o → RepS F' θ' v s → D.rt s o → E.rt v H'
  bk : ∀ F' H' θ' σ ρ o, Tw F H θ F' H' θ' → Ok B F' H' θ' σ ρ o → D.bk ρ o → E.bk σ H'
  ct : ∀ F' H' θ' σ ρ o, Tw F H θ F' H' θ' → Ok B F' H' θ' σ ρ o → D.ct ρ o → E.ct σ H'
theorem Sat.on {B : Base} {F H F1 H1 : Hp} {θ θ1 : List Addr} {D : AD} {E : Ends} (h : Sat B F H θ D E) (t : Tw F H θ F1 H1 θ1) : Sat B F1 H1 θ1 D E :=
  ⟨fun F' H' θ' σ ρ o t' => h.nx F' H' θ' σ ρ o (t.trans t'), fun F' H' θ' σ ρ o v s t' => h.rt F' H' θ' σ ρ o v s (t.trans t'), fun F' H' θ' σ ρ o t' => h.bk F' H' θ' σ ρ o (t.trans t'), fun F' H' θ' σ ρ o t' => h.ct F' H' θ' σ ρ o (t.trans t')⟩
def WS (B : Base) (t : TS) (D : AD) (ρ : R) (o : O) : Prop := ∀ F H θ σ, Ok B F H θ σ ρ o → ∀ E : Ends, Sat B F H θ D E → t E σ H
def AG (B : Base) (g : TG) (x : Sl) (ρ : R) (o : O) (P : R → O → Prop) : Prop :=
  ∀ F H θ σ v, Ok B F H θ σ ρ o → RepS F θ v x → ∀ Q : St → Hp → Prop, (∀ F' H' θ' σ' ρ' o', Tw F H θ F' H' θ' → Ok B F' H' θ' σ' ρ' o' → P ρ' o' → Q σ' H') → g v σ H Q
def AGs (B : Base) (g : TGs) (xs : List Sl) (ρ : R) (o : O) (P : R → O → Prop) : Prop :=
  ∀ F H θ σ vs, Ok B F H θ σ ρ o → RepSL F θ vs xs → ∀ Q : St → Hp → Prop, (∀ F' H' θ' σ' ρ' o', Tw F H θ F' H' θ' → Ok B F' H' θ' σ' ρ' o' → P ρ' o' → Q σ' H') → g vs σ H Q
/-- an exception of the class at C with the fields fs is wished for -/
def AX (B : Base) (W : WX) (ρ : R) (o : O) (C : Addr) (fs : List (Str × D)) : Prop :=
  ∀ F H θ σ dd ks, Ok B F H θ σ ρ o → F dd = some (.xd ks) → RepF F ks fs → W (.ref C) (some dd) σ H
section
variable {B : Base} {ρ : R} {o : O} {P : Sl → O → Prop} {ta tb te : TE} {D0 : AD}
/-! ### expressions -/
theorem e_var {i : Nat} {s : Sl} (h : ρ[i]? = some (some s)) (p : P s o) : AE B (tVar i) ρ o P := fun F H θ σ k Q q => by
  obtain ⟨v, h1, h2⟩ := k.sl.at_ i s h
  exact ⟨v, h1, q v s F H θ o (Tw.refl F H θ) k h2 p⟩
theorem e_int {i : Int} (p : P (.da (.int i)) o) : AE B (tC (.int i)) ρ o P := fun F H θ σ k Q q => q _ _ F H θ o (Tw.refl F H θ) k (RepS.dat (Rep.int i)) p
theorem e_bl {b : Bool} (p : P (.da (.bl b)) o) : AE B (tC (.bl b)) ρ o P := fun F H θ σ k Q q => q _ _ F H θ o (Tw.refl F H θ) k (RepS.dat (Rep.bl b)) p
theorem e_str {x : Str} (p : P (.da (.str x)) o) : AE B (tC (.str x)) ρ o P := fun F H θ σ k Q q => q _ _ F H θ o (Tw.refl F H θ) k (RepS.dat (Rep.str x)) p
theorem e_non (p : P (.da .non) o) : AE B (tC .non) ρ o P := fun F H θ σ k Q q => q _ _ F H θ o (Tw.refl F H θ) k (RepS.dat Rep.non) p
theorem e_raw {v : V} (p : P (.da (.raw v)) o) : AE B (tC v) ρ o P := fun F H θ σ k Q q => q _ _ F H θ o (Tw.refl F H θ) k (RepS.dat (Rep.raw v)) p
theorem e_op {r : R2} (h : AE B ta ρ o fun x o1 => AE B tb ρ o1 fun y o2 => A2 B r x y o2 P) : AE B (tOp r ta tb) ρ o P := fun F H θ σ k Q q =>
  h F H θ σ k _ fun v x F1 H1 θ1 o1 t1 k1 r1 p1 => p1 F1 H1 θ1 σ k1 _ fun u y F2 H2 θ2 o2 t2 k2 r2 p2 =>
    p2 F2 H2 θ2 σ ρ v u k2 (r1.mono t2.ff t2.pre) r2 Q fun w s F' H' θ' o' t3 k3 r3 p3 => q w s F' H' θ' o' ((t1.trans t2).trans t3) k3 r3 p3
theorem e_un {r : V → Hp → VK → Prop} (h : AE B ta ρ o fun x o1 => A1 B r x o1 P) : AE B (tUn r ta) ρ o P := fun F H θ σ k Q q =>
  h F H θ σ k _ fun v x F1 H1 θ1 o1 t1 k1 r1 p1 => p1 F1 H1 θ1 σ ρ v k1 r1 Q fun w s F' H' θ' o' t3 k3 r3 p3 => q w s F' H' θ' o' (t1.trans t3) k3 r3 p3
theorem a_nil {P : List Sl → O → Prop} (p : P [] o) : AA B tNil ρ o P := fun F H θ σ k Q q => q [] [] F H θ o (Tw.refl F H θ) k .nil p
theorem a_cons {tr : TA} {P : List Sl → O → Prop} (h : AE B ta ρ o fun x o1 => AA B tr ρ o1 fun xs o2 => P (x :: xs) o2) : AA B (tCons ta tr) ρ o P := fun F H θ σ k Q q =>
  h F H θ σ k _ fun v x F1 H1 θ1 o1 t1 k1 r1 p1 => p1 F1 H1 θ1 σ k1 _ fun us ys F2 H2 θ2 o2 t2 k2 r2 p2 => q _ _ F2 H2 θ2 o2 (t1.trans t2) k2 (.cons (r1.mono t2.ff t2.pre) r2) p2
theorem e_cb {r : List V → Hp → VK → Prop} {t : TA} (h : AA B t ρ o fun xs o1 => AN B r xs o1 P) : AE B (tCB r t) ρ o P := fun F H θ σ k Q q =>
  h F H θ σ k _ fun vs xs F1 H1 θ1 o1 t1 k1 r1 p1 => p1 F1 H1 θ1 σ ρ vs k1 r1 Q fun w s F' H' θ' o' t3 k3 r3 p3 => q w s F' H' θ' o' (t1.trans t3) k3 r3 p3
/-- all of them data -/
theorem da_all {F : Hp} {θ : List Addr} : ∀ {vs : List V} {ds : List D}, RepSL F θ vs (ds.map Sl.da) → RepL F vs ds
  | [], [], _ => .nil
  | _ :: _, _ :: _, .cons h r => .cons h (da_all r)
theorem all_da {F : Hp} {θ : List Addr} : ∀ {vs : List V} {ds : List D}, RepL F vs ds → RepSL F θ vs (ds.map Sl.da)
  | _, _, .nil => .nil
  | _, _, .cons h r => .cons h (all_da r)
theorem e_tup {t : TA} (h : AA B t ρ o fun xs o1 => ∃ ds : List D, xs = ds.map Sl.da ∧ ds.length ≤ sizeLine ∧ P (.da (.tup ds)) o1) : AE B (tTup t) ρ o P := fun F H θ σ k Q q =>
  h F H θ σ k _ fun vs xs F1 H1 θ1 o1 t1 k1 r1 ⟨ds, e, l, p1⟩ => by
    subst e
    have r := da_all r1
    refine ⟨by rw [r.len]; exact l, fun p n => ?_⟩
    obtain ⟨t2, k2⟩ := k1.put (u := .tup vs) n
    exact q _ _ _ _ _ _ (t1.trans t2.w) k2 (RepS.dat (Rep.tup upd_same (r.mono t2.ff))) p1
/-- [..] as data; as an own object -/
theorem e_lst {t : TA} (h : AA B t ρ o fun xs o1 => ∃ ds : List D, xs = ds.map Sl.da ∧ ds.length ≤ sizeLine ∧ P (.da (.lst ds)) o1) : AE B (tLst t) ρ o P := fun F H θ σ k Q q =>
  h F H θ σ k _ fun vs xs F1 H1 θ1 o1 t1 k1 r1 ⟨ds, e, l, p1⟩ => by
    subst e
    have r := da_all r1
    refine ⟨by rw [r.len]; exact l, fun p n => ?_⟩
    obtain ⟨t2, k2⟩ := k1.put (u := .lst vs) n
    exact q _ _ _ _ _ _ (t1.trans t2.w) k2 (RepS.dat (Rep.lst upd_same (r.mono t2.ff))) p1
theorem Paired.len {α β : Type} {F : α → β → Prop} : ∀ {xs : List α} {ys : List β}, Paired F xs ys → xs.length = ys.length
  | _, _, .nil => rfl
  | _, _, .cons _ r => congrArg (· + 1) (Paired.len r)
theorem e_lstO {t : TA} (h : AA B t ρ o fun xs o1 => xs.length ≤ sizeLine ∧ P (.ow o1.length) (o1 ++ [.lst xs])) : AE B (tLst t) ρ o P := fun F H θ σ k Q q =>
  h F H θ σ k _ fun vs xs F1 H1 θ1 o1 t1 k1 r1 ⟨l, p1⟩ => by
    refine ⟨by rw [Paired.len r1]; exact l, fun p n => ?_⟩
    obtain ⟨t2, k2⟩ := k1.lay (u := .lst vs) (w := .lst xs) n ⟨vs, upd_same, r1.mono (Ex.refl _) ⟨[p], rfl⟩⟩
    exact q _ _ _ _ _ _ (t1.trans t2.w) k2 (RepS.own (by rw [← k1.len, List.getElem?_append_right (Nat.le_refl _)]; simp)) p1
theorem e_dnew (p1 : P (.ow o.length) (o ++ [.dic []])) : AE B tDNewK ρ o P := fun F H θ σ k Q q p n => by
  obtain ⟨t2, k2⟩ := k.lay (u := .dK []) (w := .dic []) n ⟨[], upd_same, .nil⟩
  exact q _ _ _ _ _ _ t2.w k2 (RepS.own (by rw [← k.len, List.getElem?_append_right (Nat.le_refl _)]; simp)) p1
/-! ### tests -/
theorem t_B {te : TE} {P : Bool → O → Prop} (h : AE B te ρ o fun s o1 => ∃ b, s = .da (.bl b) ∧ P b o1) : AT B (tB te) ρ o P := fun F H θ σ k Q q =>
  h F H θ σ k _ fun v s F1 H1 θ1 o1 t1 k1 r1 ⟨b, e, p⟩ => by
    subst e
    cases r1
    exact ⟨b, rfl, q b F1 H1 θ1 o1 t1 k1 p⟩
theorem t_test {te : TE} {P : Bool → O → Prop} (h : AE B te ρ o fun s o1 => ∃ b, s = .da (.bl b) ∧ P b o1) : AT B (tTest te) ρ o P := t_B h
theorem t_and {t u : TT} {P : Bool → O → Prop} (h : AT B t ρ o fun b o1 => if b = true then AT B u ρ o1 P else P false o1) : AT B (tAnd t u) ρ o P := fun F H θ σ k Q q =>
  h F H θ σ k _ fun b F1 H1 θ1 o1 t1 k1 p => by
    cases b with
    | true => exact p F1 H1 θ1 σ k1 Q fun b F' H' θ' o' t2 k2 p2 => q b F' H' θ' o' (t1.trans t2) k2 p2
    | false => exact q false F1 H1 θ1 o1 t1 k1 p
theorem t_or {t u : TT} {P : Bool → O → Prop} (h : AT B t ρ o fun b o1 => if b = true then P true o1 else AT B u ρ o1 P) : AT B (tOr t u) ρ o P := fun F H θ σ k Q q =>
  h F H θ σ k _ fun b F1 H1 θ1 o1 t1 k1 p => by
    cases b with
    | true => exact q true F1 H1 θ1 o1 t1 k1 p
    | false => exact p F1 H1 θ1 σ k1 Q fun b F' H' θ' o' t2 k2 p2 => q b F' H' θ' o' (t1.trans t2) k2 p2
theorem t_not {t : TT} {P : Bool → O → Prop} (h : AT B t ρ o fun b o1 => P (!b) o1) : AT B (tNot t) ρ o P := fun F H θ σ k Q q =>
  h F H θ σ k _ fun b F1 H1 θ1 o1 t1 k1 p => q (!b) F1 H1 θ1 o1 t1 k1 p
theorem e_if {t : TT} (h : AT B t ρ o fun b o1 => if b = true then AE B ta ρ o1 P else AE B tb ρ o1 P) : AE B (tIf t ta tb) ρ o P := fun F H θ σ k Q q =>
  h F H θ σ k _ fun b F1 H1 θ1 o1 t1 k1 p => by
    cases b with
    | true => exact p F1 H1 θ1 σ k1 Q fun v s F' H' θ' o' t2 k2 r2 p2 => q v s F' H' θ' o' (t1.trans t2) k2 r2 p2
    | false => exact p F1 H1 θ1 σ k1 Q fun v s F' H' θ' o' t2 k2 r2 p2 => q v s F' H' θ' o' (t1.trans t2) k2 r2 p2
theorem e_andV (h : AE B ta ρ o fun s o1 => ∃ b, s = .da (.bl b) ∧ if b = true then AE B tb ρ o1 P else P (.da (.bl false)) o1) : AE B (tAndV ta tb) ρ o P := fun F H θ σ k Q q =>
  h F H θ σ k _ fun v s F1 H1 θ1 o1 t1 k1 r1 ⟨b, e, p⟩ => by
    subst e
    cases r1
    refine ⟨b, rfl, ?_⟩
    cases b with
    | true => exact p F1 H1 θ1 σ k1 Q fun v s F' H' θ' o' t2 k2 r2 p2 => q v s F' H' θ' o' (t1.trans t2) k2 r2 p2
    | false => exact q _ _ F1 H1 θ1 o1 t1 k1 (RepS.dat (Rep.bl false)) p
theorem e_orV (h : AE B ta ρ o fun s o1 => ∃ b, s = .da (.bl b) ∧ if b = true then P (.da (.bl true)) o1 else AE B tb ρ o1 P) : AE B (tOrV ta tb) ρ o P := fun F H θ σ k Q q =>
  h F H θ σ k _ fun v s F1 H1 θ1 o1 t1 k1 r1 ⟨b, e, p⟩ => by
    subst e
    cases r1
    refine ⟨b, rfl, ?_⟩
    cases b with
    | true => exact q _ _ F1 H1 θ1 o1 t1 k1 (RepS.dat (Rep.bl true)) p
    | false => exact p F1 H1 θ1 σ k1 Q fun v s F' H' θ' o' t2 k2 r2 p2 => q v s F' H' θ' o' (t1.trans t2) k2 r2 p2
theorem e_notV (h : AE B ta ρ o fun s o1 => ∃ b, s = .da (.bl b) ∧ P (.da (.bl (!b))) o1) : AE B (tNotV ta) ρ o P := fun F H θ σ k Q q =>
  h F H θ σ k _ fun v s F1 H1 θ1 o1 t1 k1 r1 ⟨b, e, p⟩ => by
    subst e
    cases r1
    exact ⟨b, rfl, q _ _ F1 H1 θ1 o1 t1 k1 (RepS.dat (Rep.bl _)) p⟩
/-- a chain of two comparisons -/
theorem e_chain {r r' : R2} {tc : TE} (h : AE B ta ρ o fun x o1 => AE B tb ρ o1 fun y o2 => A2 B r x y o2 fun z o3 => ∃ b, z = .da (.bl b) ∧ if b = true then AE B tc ρ o3 fun w o4 => A2 B r' y w o4 P else P (.da (.bl false)) o3) :
    AE B (tChain r r' ta tb tc) ρ o P := by
  intro F H θ σ k Q q
  refine h F H θ σ k _ fun v x F1 H1 θ1 o1 t1 k1 r1 p1 => ?_
  refine p1 F1 H1 θ1 σ k1 _ fun u y F2 H2 θ2 o2 t2 k2 r2 p2 => ?_
  refine p2 F2 H2 θ2 σ ρ v u k2 (r1.mono t2.ff t2.pre) r2 _ fun w s F3 H3 θ3 o3 t3 k3 r3 p3 => ?_
  obtain ⟨b, e, p3⟩ := p3
  subst e
  cases r3
  refine ⟨b, rfl, ?_⟩
  cases b with
  | true =>
    refine p3 F3 H3 θ3 σ k3 _ fun u' y' F4 H4 θ4 o4 t4 k4 r4 p4 => ?_
    exact p4 F4 H4 θ4 σ ρ u u' k4 ((r2.mono t3.ff t3.pre).mono t4.ff t4.pre) r4 Q fun w s F' H' θ' o' t5 k5 r5 p5 => q w s F' H' θ' o' ((((t1.trans t2).trans t3).trans t4).trans t5) k5 r5 p5
  | false => exact q _ _ F3 H3 θ3 o3 ((t1.trans t2).trans t3) k3 (RepS.dat (Rep.bl false)) p3
/-! ### statements -/
theorem s_seq {t u : TS} (h : WS B t { D0 with nx := fun ρ o => WS B u D0 ρ o } ρ o) : WS B (tSeq t u) D0 ρ o := fun F H θ σ k E hE =>
  h F H θ σ k { E with nx := u E } ⟨fun F' H' θ' σ ρ o t k w => w F' H' θ' σ k E (hE.on t), hE.rt, hE.bk, hE.ct⟩
theorem s_next (h : D0.nx ρ o) : WS B tNext D0 ρ o := fun F H θ σ k E hE => hE.nx F H θ σ ρ o (Tw.refl F H θ) k h
theorem s_brk (h : D0.bk ρ o) : WS B tBreak D0 ρ o := fun F H θ σ k E hE => hE.bk F H θ σ ρ o (Tw.refl F H θ) k h
theorem s_cont (h : D0.ct ρ o) : WS B tCont D0 ρ o := fun F H θ σ k E hE => hE.ct F H θ σ ρ o (Tw.refl F H θ) k h
theorem s_drop (h : AE B te ρ o fun _ o1 => D0.nx ρ o1) : WS B (tDrop te) D0 ρ o := fun F H θ σ k E hE => h F H θ σ k _ fun v s F1 H1 θ1 o1 t1 k1 r1 p => hE.nx F1 H1 θ1 σ ρ o1 t1 k1 p
theorem s_ret (h : AE B te ρ o D0.rt) : WS B (tRet te) D0 ρ o := fun F H θ σ k E hE => h F H θ σ k _ fun v s F1 H1 θ1 o1 t1 k1 r1 p => hE.rt F1 H1 θ1 σ ρ o1 v s t1 k1 r1 p
theorem s_retN (h : D0.rt (.da .non) o) : WS B tRetN D0 ρ o := fun F H θ σ k E hE => hE.rt F H θ σ ρ o _ _ (Tw.refl F H θ) k (RepS.dat Rep.non) h
theorem s_if {c : TT} {t u : TS} (h : AT B c ρ o fun b o1 => if b = true then WS B t D0 ρ o1 else WS B u D0 ρ o1) : WS B (tIfS c t u) D0 ρ o := fun F H θ σ k E hE =>
  h F H θ σ k _ fun b F1 H1 θ1 o1 t1 k1 p => by
    cases b with
    | true => exact p F1 H1 θ1 σ k1 E (hE.on t1)
    | false => exact p F1 H1 θ1 σ k1 E (hE.on t1)
theorem s_asg {g : TG} (h : AE B te ρ o fun x o1 => AG B g x ρ o1 D0.nx) : WS B (tAsg te g) D0 ρ o := fun F H θ σ k E hE =>
  h F H θ σ k _ fun v s F1 H1 θ1 o1 t1 k1 r1 p => p F1 H1 θ1 σ v k1 r1 _ fun F' H' θ' σ' ρ' o' t2 k2 p2 => hE.nx F' H' θ' σ' ρ' o' (t1.trans t2) k2 p2
theorem g_name {i : Nat} {x : Sl} {P : R → O → Prop} (h : P (ρ.set i (some x)) o) : AG B (gName i) x ρ o P := fun F H θ σ v k r Q q =>
  q F H θ (σ.set i (some v)) _ o (Tw.refl F H θ) (k.slots (k.sl.set r)) h
theorem g_nil {P : R → O → Prop} (h : P ρ o) : AGs B gNil [] ρ o P := fun F H θ σ v k r Q q => by
  cases r
  exact ⟨rfl, q F H θ σ ρ o (Tw.refl F H θ) k h⟩
theorem g_cons {g : TG} {gs : TGs} {x : Sl} {xs : List Sl} {P : R → O → Prop} (h : AG B g x ρ o fun ρ1 o1 => AGs B gs xs ρ1 o1 P) : AGs B (gCons g gs) (x :: xs) ρ o P := fun F H θ σ vs k r Q q => by
  cases r with
  | @cons v _ vs' _ r rs =>
    exact ⟨v, vs', rfl, h F H θ σ v k r _ fun F1 H1 θ1 σ1 ρ1 o1 t1 k1 p1 => p1 F1 H1 θ1 σ1 vs' k1 (RepSL.mono t1.ff t1.pre rs) Q fun F' H' θ' σ' ρ' o' t2 k2 p2 => q F' H' θ' σ' ρ' o' (t1.trans t2) k2 p2⟩
theorem g_tup {K : PySem.W.Frag} {n : Nat} {gs : TGs} {ds : List D} {P : R → O → Prop} (hn : ds.length = n) (h : AGs B gs (ds.map Sl.da) ρ o P) : AG B (gTup K n gs) (.da (.tup ds)) ρ o P := fun F H θ σ v k r Q q => by
  cases r with
  | @tup a xs _ e rl => exact ⟨a, xs, rfl, SqT.of (k.fh a _ e), by rw [rl.len, hn], h F H θ σ xs k (all_da rl) Q q⟩
/-- a, b = x, y -/
theorem s_par {i j : Nat} {t : TA} (h : AA B t ρ o fun xs o1 => ∃ x y, xs = [x, y] ∧ D0.nx ((ρ.set i (some x)).set j (some y)) o1) : WS B (tPar i j t) D0 ρ o := fun F H θ σ k E hE =>
  h F H θ σ k _ fun vs ss F1 H1 θ1 o1 t1 k1 r1 ⟨x, y, e, p⟩ => by
    subst e
    cases r1 with
    | @cons v _ _ _ r rs =>
      cases rs with
      | @cons w _ _ _ r' rs' =>
        cases rs'
        exact ⟨v, w, rfl, hE.nx F1 H1 θ1 _ _ o1 t1 (k1.slots ((k1.sl.set r).set r')) p⟩
theorem s_par3 {i j l : Nat} {t : TA} (h : AA B t ρ o fun xs o1 => ∃ x y z, xs = [x, y, z] ∧ D0.nx (((ρ.set i (some x)).set j (some y)).set l (some z)) o1) : WS B (tPar3 i j l t) D0 ρ o := fun F H θ σ k E hE =>
  h F H θ σ k _ fun vs ss F1 H1 θ1 o1 t1 k1 r1 ⟨x, y, z, e, p⟩ => by
    subst e
    cases r1 with
    | @cons v _ _ _ r rs =>
      cases rs with
      | @cons w _ _ _ r' rs' =>
        cases rs' with
        | @cons u _ _ _ r'' rs'' =>
          cases rs''
          exact ⟨v, w, u, rfl, hE.nx F1 H1 θ1 _ _ o1 t1 (k1.slots (((k1.sl.set r).set r').set r'')) p⟩
/-- name op= e -/
theorem s_aug {i : Nat} {ti : TIp} {x : Sl} (hx : ρ[i]? = some (some x)) (h : AE B te ρ o fun y o1 => A2 B ti x y o1 fun z o2 => D0.nx (ρ.set i (some z)) o2) : WS B (tAug i te ti) D0 ρ o := fun F H θ σ k E hE => by
  obtain ⟨v, h1, h2⟩ := k.sl.at_ i x hx
  exact ⟨v, h1, h F H θ σ k _ fun u y F1 H1 θ1 o1 t1 k1 r1 p1 => p1 F1 H1 θ1 σ ρ v u k1 (h2.mono t1.ff t1.pre) r1 _ fun w s F2 H2 θ2 o2 t2 k2 r2 p2 => hE.nx F2 H2 θ2 _ _ o2 (t1.trans t2) (k2.slots (k2.sl.set r2)) p2⟩
/-- weakening -/
theorem WS.mono {t : TS} {D1 : AD} (h : WS B t D1 ρ o) (h1 : ∀ ρ o, D1.nx ρ o → D0.nx ρ o) (h2 : ∀ s o, D1.rt s o → D0.rt s o) (h3 : ∀ ρ o, D1.bk ρ o → D0.bk ρ o) (h4 : ∀ ρ o, D1.ct ρ o → D0.ct ρ o) : WS B t D0 ρ o := fun F H θ σ k E hE =>
  h F H θ σ k E ⟨fun F' H' θ' σ ρ o t k w => hE.nx F' H' θ' σ ρ o t k (h1 _ _ w), fun F' H' θ' σ ρ o v s t k r w => hE.rt F' H' θ' σ ρ o v s t k r (h2 _ _ w), fun F' H' θ' σ ρ o t k w => hE.bk F' H' θ' σ ρ o t k (h3 _ _ w), fun F' H' θ' σ ρ o t k w => hE.ct F' H' θ' σ ρ o t k (h4 _ _ w)⟩
/-- a statement, a word, the rest -/
theorem s_cut {t u : TS} (Mid : R → O → Prop) (h : WS B t { D0 with nx := Mid } ρ o) (h2 : ∀ ρ o, Mid ρ o → WS B u D0 ρ o) : WS B (tSeq t u) D0 ρ o :=
  s_seq (h.mono (fun ρ o m => h2 ρ o m) (fun _ _ x => x) (fun _ _ x => x) (fun _ _ x => x))
theorem AE.mono {P P' : Sl → O → Prop} (h : AE B te ρ o P) (hp : ∀ s o, P s o → P' s o) : AE B te ρ o P' := fun F H θ σ k Q q => h F H θ σ k Q fun v s F' H' θ' o' t k' r p => q v s F' H' θ' o' t k' r (hp s o' p)
theorem AT.mono {t : TT} {P P' : Bool → O → Prop} (h : AT B t ρ o P) (hp : ∀ s o, P s o → P' s o) : AT B t ρ o P' := fun F H θ σ k Q q => h F H θ σ k Q fun v F' H' θ' o' t k' p => q v F' H' θ' o' t k' (hp v o' p)
/-- forgetting what a slot holds -/
theorem WS.forget {t : TS} {ρ' : R} (hl : ρ'.length = ρ.length) (h : ∀ (i : Nat) (s : Sl), ρ'[i]? = some (some s) → ρ[i]? = some (some s)) (w : WS B t D0 ρ' o) : WS B t D0 ρ o := fun F H θ σ k E hE =>
  w F H θ σ (k.slots ⟨k.sl.len.trans hl.symm, fun i s q => k.sl.at_ i s (h i s q)⟩) E hE
end
end AB

set_option Elab.async false
set_option linter.all false
set_option maxRecDepth 100000
set_option maxHeartbeats 4000000
set_option autoImplicit false
namespace AB
open PySem L2 PySem.Spec PyProof.Rows
/-! ### operators by values, of several kinds at once -/
section
variable {X : Cx}
def rAddI : R2 := rI0 fun i j => .int (i + j)
def rAddS : R2 := fun x y H Q => ∃ i j, x = .str i ∧ y = .str j ∧ i.length + j.length ≤ sizeLine ∧ Q (.str (i ++ j)) H
def rAddA : R2 := fun x y H Q => rAddI x y H Q ∨ rAddS x y H Q ∨ rCat x y H Q
theorem op_addA : OpR X (binaryOp .Add) rAddA := OpR.or op_add (OpR.or op_add_str op_cat)
def rSubA : R2 := rI0 fun i j => .int (i - j)
theorem op_subA : OpR X (binaryOp .Sub) rSubA := op_sub
def rMulI : R2 := rI CMul fun i j => .int (i * j)
def rMulA : R2 := fun x y H Q => rMulI x y H Q ∨ rRep x y H Q
theorem op_mulA : OpR X (binaryOp .Mult) rMulA := OpR.or op_mul op_rep
def rModA : R2 := rI (fun _ j => 0 < j) fun i j => .int (i % j)
theorem op_modA : OpR X (binaryOp .Mod) rModA := op_mod
def rDivA : R2 := rI CDivW fun i j => .int (i / j)
theorem op_divA : OpR X (binaryOp .FloorDiv) rDivA := op_fdivW
def rPowA : R2 := rI CPow fun i j => .int (i ^ j.toNat)
theorem op_powA : OpR X (binaryOp .Pow) rPowA := op_pow
def rAndA : R2 := rI0 fun i j => .int (Builtin.bitAnd i j)
theorem op_andA : OpR X (binaryOp .BitAnd) rAndA := op_and
def rBorA : R2 := rI0 fun i j => .int (Builtin.bitOr i j)
theorem op_borA : OpR X (binaryOp .BitOr) rBorA := op_or
def rShlA : R2 := rI CPow fun i j => .int (i * 2 ^ j.toNat)
theorem op_shlA : OpR X (binaryOp .LShift) rShlA := op_shl
def rLtI : R2 := rI0 fun i j => .bl (decide (i < j))
def rLtS : R2 := fun x y H Q => ∃ i j, x = .str i ∧ y = .str j ∧ Q (.bl (decide (i.cps.toList < j.cps.toList))) H
def rLtA : R2 := fun x y H Q => rLtI x y H Q ∨ rLtS x y H Q
theorem op_ltA : OpR X (compareOp .Lt) rLtA := OpR.or op_lt op_lt_str
def rLeA : R2 := rI0 fun i j => .bl (decide (i ≤ j))
theorem op_leA : OpR X (compareOp .LtE) rLeA := op_le
def rGtA : R2 := rI0 fun i j => .bl (decide (j < i))
theorem op_gtA : OpR X (compareOp .Gt) rGtA := op_gt
def rGeA : R2 := rI0 fun i j => .bl (decide (j ≤ i))
theorem op_geA : OpR X (compareOp .GtE) rGeA := op_ge
def rIsA : R2 := fun x y H Q => y = .non ∧ Q (.bl (decide (x = .non))) H
theorem op_isA : OpR X (compareOp .Is) rIsA := op_isN
def rIsNotA : R2 := fun x y H Q => y = .non ∧ Q (.bl (!decide (x = .non))) H
theorem op_isNotA : OpR X (compareOp .IsNot) rIsNotA := op_notN
def rUnA : V → Hp → VK → Prop := rU fun i => .int (-i)
theorem un_negA : UnR X (unaryOp .USub) rUnA := un_neg
/-- ==, != of data of any depth up to 60 -/
def rEqP (K : PySem.W.Frag) : R2 := fun x y H Q => ∃ d e, Dp K H x d ∧ Dp K H y e ∧ d.plain = true ∧ e.plain = true ∧ min d.depth e.depth ≤ 60 ∧ Q (.bl (PyData.eqv d e)) H
def rNeP (K : PySem.W.Frag) : R2 := fun x y H Q => ∃ d e, Dp K H x d ∧ Dp K H y e ∧ d.plain = true ∧ e.plain = true ∧ min d.depth e.depth ≤ 60 ∧ Q (.bl (!PyData.eqv d e)) H
theorem op_eqP (hu : X.A.units + 64 < cLine) : OpR X (compareOp .Eq) (rEqP X.K) := by
  intro pins s σ H x y v u Q I rx ry h
  obtain ⟨d, e, hd, he, pd, pe, hm, q⟩ := h
  obtain ⟨as, r1⟩ := Dp.reads I d x v hd rx
  obtain ⟨bs, r2⟩ := Dp.reads I e y u he ry
  exact SeqAt.eq_plain r1 r2 pd pe (by omega) ⟨.bl _, H, I, rfl, q⟩
theorem op_neP (hu : X.A.units + 64 < cLine) : OpR X (compareOp .NotEq) (rNeP X.K) := by
  intro pins s σ H x y v u Q I rx ry h
  obtain ⟨d, e, hd, he, pd, pe, hm, q⟩ := h
  obtain ⟨as, r1⟩ := Dp.reads I d x v hd rx
  obtain ⟨bs, r2⟩ := Dp.reads I e y u he ry
  exact SeqAt.ne_plain r1 r2 pd pe (by omega) ⟨.bl _, H, I, rfl, q⟩
/-- in: a list or a tuple of data, a dict, one sign in a text -/
def rInP (K : PySem.W.Frag) (f : Bool → Bool) : R2 := fun x y H Q => ∃ d ds, Dp K H x d ∧ (Dp K H y (.list ds) ∨ Dp K H y (.tuple ds)) ∧ d.plain = true ∧ PyData.plainAll ds = true ∧ d.depth ≤ 60 ∧ Q (.bl (f (ds.any fun z => PyData.eqv z d))) H
def rInD (f : Bool → Bool) : R2 := fun y x H Q => ∃ a r, x = .ref a ∧ DGet H a y r ∧ Q (.bl (f r.isSome)) H
def rInC (f : Bool → Bool) : R2 := fun x y H Q => ∃ (c : Nat) (z : Str), x = .str ⟨#[c]⟩ ∧ y = .str z ∧ Q (.bl (f (decide (c ∈ z.cps.toList)))) H
def rInA (K : PySem.W.Frag) : R2 := fun x y H Q => rInP K id x y H Q ∨ rInD id x y H Q ∨ rInC id x y H Q
def rNotInA (K : PySem.W.Frag) : R2 := fun x y H Q => rInP K (!·) x y H Q ∨ rInD (!·) x y H Q ∨ rInC (!·) x y H Q
theorem op_inA (hu : X.A.units + 64 < cLine) : OpR X (compareOp .In) (rInA X.K) := by
  refine OpR.or ?_ (OpR.or ?_ op_in_sign)
  · intro pins s σ H x y v u Q I rx ry h
    obtain ⟨d, ds, hd, he, pd, pe, hm, q⟩ := h
    obtain ⟨as, r1⟩ := Dp.reads I d x v hd rx
    rcases he with he | he
    · obtain ⟨bs, r2⟩ := Dp.reads I _ y u he ry
      exact SeqAt.in_list_data r2 r1 pe pd (by omega) ⟨.bl _, H, I, rfl, q⟩
    · obtain ⟨bs, r2⟩ := Dp.reads I _ y u he ry
      exact SeqAt.in_tuple_data r2 r1 pe pd (by omega) ⟨.bl _, H, I, rfl, q⟩
  · intro pins s σ H x y v u Q I rx ry h
    obtain ⟨a, r, rfl, g, q⟩ := h
    obtain rfl : u = Value.ref a := ry
    exact d_in (by omega) I g rx fun s3 I3 => ⟨.bl _, H, I3, rfl, q⟩
theorem op_notInA (hu : X.A.units + 64 < cLine) : OpR X (compareOp .NotIn) (rNotInA X.K) := by
  refine OpR.or ?_ (OpR.or ?_ op_notIn_sign)
  · intro pins s σ H x y v u Q I rx ry h
    obtain ⟨d, ds, hd, he, pd, pe, hm, q⟩ := h
    obtain ⟨as, r1⟩ := Dp.reads I d x v hd rx
    rcases he with he | he
    · obtain ⟨bs, r2⟩ := Dp.reads I _ y u he ry
      exact SeqAt.notIn_list_data r2 r1 pe pd (by omega) ⟨.bl _, H, I, rfl, q⟩
    · obtain ⟨bs, r2⟩ := Dp.reads I _ y u he ry
      exact SeqAt.notIn_tuple_data r2 r1 pe pd (by omega) ⟨.bl _, H, I, rfl, q⟩
  · intro pins s σ H x y v u Q I rx ry h
    obtain ⟨a, r, rfl, g, q⟩ := h
    obtain rfl : u = Value.ref a := ry
    exact d_notIn (by omega) I g rx fun s3 I3 => ⟨.bl _, H, I3, rfl, q⟩
/-- a subscript: a list, a tuple, a text, a dict -/
def rIxD : R2 := fun x y H Q => ∃ a v, x = .ref a ∧ DGet H a y (some v) ∧ Q v H
def rIxA (K : PySem.W.Frag) : R2 := fun x y H Q => rIx K x y H Q ∨ rIxD x y H Q
theorem ix_A (hu : X.A.units + 64 < cLine) : IxR X (rIxA X.K) := by
  refine IxR.or ix_seq ?_
  intro value slice pins s σ H x y v u Q I rx ry h hs
  obtain ⟨a, w', rfl, g, q⟩ := h
  obtain rfl : v = Value.ref a := rx
  exact tail_any (dict_typeIs I g) PySem.F.slot_dict_getitem.lookup (d_getItem (by omega) I g ry fun w2 s3 I3 rw' => ⟨w', H, I3, rw', q⟩) hs
/-- a slice: a list, a text -/
def rSlA (K : PySem.W.Frag) : V → Option Int → Option Int → Hp → VK → Prop := fun x lo hi H Q => rSlL K x lo hi H Q ∨ rSlS x lo hi H Q
theorem sl_A : SlR X (rSlA X.K) := SlR.or sl_list sl_str
/-- targets: a tuple or a list of that length -/
theorem PG.or {tg : Expr} {g g' : TG} (h : PG X tg g) (h' : PG X tg g') : PG X tg (fun v σ H Q => g v σ H Q ∨ g' v σ H Q) :=
  ⟨fun pins s σ H v u Q I r q => q.elim (h.run pins s σ H v u Q I r) (h'.run pins s σ H v u Q I r)⟩
def gUn (K : PySem.W.Frag) (n : Nat) (t : TGs) : TG := fun v σ H Q => gTup K n t v σ H Q ∨ gLst K n t v σ H Q
theorem pg_un {es : List Expr} {k : Nat} {t : TGs} {n : Nat} {pos : Pos} (hc : X.calm = true) (h : PGs X es t)
    (hn : (assignEach es X.env).length = n := by rfl) (hst : (assignEach es X.env).findIdx? (·.1) = none := by rfl) : PG X (.Tuple es k pos) (gUn X.K n t) := PG.or (pg_tup hc h hn hst) (pg_lst hc h hn hst)
/-- a walk over a list, a tuple, a text -/
def iSq (K : PySem.W.Frag) (tl : TE) : TI := fun σ H R => tl σ H fun x H1 => (∃ a, x = .ref a ∧ (∃ xs, SqL K H1 a xs) ∧ R (Itl K a) H1) ∨ (∃ a, x = .ref a ∧ (∃ xs, SqT K H1 a xs) ∧ R (Itt K a) H1) ∨ ∃ z, x = .str z ∧ R (Its z) H1
theorem pi_sq {l tg : Expr} {tl : TE} (hl : PE X l tl) : PI X tg l (iSq X.K tl) := by
  refine ⟨fun pins s σ H R I h => ?_⟩
  refine thn (hl.run pins s σ H _ I h) fun v s1 ⟨x, H1, I1, r1, q1⟩ => ?_
  rcases q1 with ⟨a, e, ⟨xs, hq⟩, q⟩ | ⟨a, e, ⟨xs, hq⟩, q⟩ | ⟨z, e, q⟩
  · subst e
    cases r1
    obtain ⟨its, rv, p, hz⟩ := I1.list hq
    refine wpAny_pyIter_list p.isList ?_
    refine ⟨s1.heap.objs.size, [s1.heap.objs.size], _, _, H1, rfl, I1.kept (t' := s1.toks) fun b o e => Heap.get?_push_of_some _ e, turn_list a _, ⟨_, Heap.get?_push_size _ rfl, rfl, rfl⟩, fun b hb => ?_, q⟩
    have e : b = s1.heap.objs.size := by simpa using hb
    subst e
    exact I1.fpOk (Nat.le_refl _) (I1.hok.fresh (Nat.le_refl _))
  · subst e
    cases r1
    obtain ⟨its, rv, p, hz⟩ := I1.tuple hq
    refine wpAny_pyIter_tuple (show s1.heap.IsTuple a its.toArray from p) ?_
    refine ⟨s1.heap.objs.size, [s1.heap.objs.size], _, _, H1, rfl, I1.kept (t' := s1.toks) fun b o e => Heap.get?_push_of_some _ e, turn_tuple a _, ⟨_, Heap.get?_push_size _ rfl, rfl, rfl⟩, fun b hb => ?_, q⟩
    have e : b = s1.heap.objs.size := by simpa using hb
    subst e
    exact I1.fpOk (Nat.le_refl _) (I1.hok.fresh (Nat.le_refl _))
  · subst e
    obtain ⟨t, rfl⟩ := r1
    cases ha : z.cps.all (· < 128)
    · exact wpAny_pyIter_wide ha (pi_one (tk := s1.toks) I1 _ (turn_str _ z t "str_iterator" (.inr rfl)) ⟨_, Heap.get?_push_size _ rfl, rfl, rfl⟩ q)
    · exact wpAny_pyIter_ascii ha (pi_one (tk := s1.toks) I1 _ (turn_str _ z t "str_ascii_iterator" (.inl rfl)) ⟨_, Heap.get?_push_size _ rfl, rfl, rfl⟩ q)
/-- len -/
def rLenA (K : PySem.W.Frag) : List V → Hp → VK → Prop := fun xs H Q => (∃ x n, xs = [x] ∧ LenV K x H n ∧ Q (.int n) H) ∨ ∃ a kvs, xs = [V.ref a] ∧ H a = some (.dK kvs) ∧ Q (.int kvs.length) H
theorem CallR.or {f : Value} {r r' : List V → Hp → VK → Prop} (h : CallR X f r) (h' : CallR X f r') : CallR X f (fun xs H Q => r xs H Q ∨ r' xs H Q) := fun pins s σ H xs us Q I rv q => q.elim (h pins s σ H xs us Q I rv) (h' pins s σ H xs us Q I rv)
theorem cr_lenA : CallR X (.builtin "len") (rLenA X.K) := CallR.or call_len call_lenD
def rListA (K : PySem.W.Frag) : List V → Hp → VK → Prop := fun xs H Q => ∃ p ys, xs = [.ref p] ∧ (SqL K H p ys ∨ SqT K H p ys) ∧ ∀ l, H l = none → Q (.ref l) (upd H l (.lst ys))
theorem cr_listA : CallR X (.type "list") (rListA X.K) := call_list_of
def rTupA (K : PySem.W.Frag) : List V → Hp → VK → Prop := fun xs H Q => ∃ p ys, xs = [.ref p] ∧ ((SqL K H p ys ∧ ∀ l, H l = none → Q (.ref l) (upd H l (.tup ys))) ∨ (SqT K H p ys ∧ Q (.ref p) H))
theorem cr_tupA : CallR X (.type "tuple") (rTupA X.K) := call_tuple_of
def rStrI : List V → Hp → VK → Prop := fun xs H Q => ∃ i, xs = [.int i] ∧ i.natAbs.log2 < 1920 ∧ Q (.str (toString i)) H
theorem cr_strI : CallR X (.type "str") rStrI := call_str_int
def rIntI : List V → Hp → VK → Prop := fun xs H Q => (∃ i, xs = [.int i] ∧ Q (.int i) H) ∨ ∃ k, xs = [.bl k] ∧ Q (.int (if k then 1 else 0)) H
theorem cr_intI : CallR X (.type "int") rIntI := call_int1
def rAbsI : List V → Hp → VK → Prop := fun xs H Q => ∃ i, xs = [.int i] ∧ Q (.int (if i < 0 then -i else i)) H
theorem cr_absI : CallR X (.builtin "abs") rAbsI := call_abs
def rMax2 : List V → Hp → VK → Prop := fun xs H Q => ∃ i j, xs = [.int i, .int j] ∧ Q (.int (if j > i then j else i)) H
def rMin2 : List V → Hp → VK → Prop := fun xs H Q => ∃ i j, xs = [.int i, .int j] ∧ Q (.int (if j < i then j else i)) H
def rMaxA (K : PySem.W.Frag) : List V → Hp → VK → Prop := fun xs H Q => rMax2 xs H Q ∨ rMax K xs H Q ∨ rNuC3 nuMax3 xs H Q
def rMinA (K : PySem.W.Frag) : List V → Hp → VK → Prop := fun xs H Q => rMin2 xs H Q ∨ rMin K xs H Q ∨ rNuC3 nuMin3 xs H Q
theorem cr_maxA (hc : X.calm = true) : CallR X (.builtin "max") (rMaxA X.K) := CallR.or (call_max2 hc) (CallR.or (cr_max hc) (call_max3Nu hc))
theorem cr_minA (hc : X.calm = true) : CallR X (.builtin "min") (rMinA X.K) := CallR.or (call_min2 hc) (CallR.or (cr_min hc) (call_min3Nu hc))
end
/-! ### what they give -/
section
variable {B : Base} {ρ : R} {o : O} {P : Sl → O → Prop} {K : PySem.W.Frag}
theorem A2.of {r : R2} {x y z : Sl} (h : ∀ F H θ σ ρ v u, Ok B F H θ σ ρ o → RepS F θ v x → RepS F θ u y → ∀ Q : VK, (∀ w, RepS F θ w z → Q w H) → r v u H Q) (p : P z o) : A2 B r x y o P := fun F H θ σ ρ v u k r1 r2 Q q =>
  h F H θ σ ρ v u k r1 r2 Q fun w rw' => q w z F H θ o (Tw.refl F H θ) k rw' p
theorem A1.of {r : V → Hp → VK → Prop} {x z : Sl} (h : ∀ F H θ σ ρ v, Ok B F H θ σ ρ o → RepS F θ v x → ∀ Q : VK, (∀ w, RepS F θ w z → Q w H) → r v H Q) (p : P z o) : A1 B r x o P := fun F H θ σ ρ v k r1 Q q =>
  h F H θ σ ρ v k r1 Q fun w rw' => q w z F H θ o (Tw.refl F H θ) k rw' p
theorem AN.of {r : List V → Hp → VK → Prop} {xs : List Sl} {z : Sl} (h : ∀ F H θ σ ρ vs, Ok B F H θ σ ρ o → RepSL F θ vs xs → ∀ Q : VK, (∀ w, RepS F θ w z → Q w H) → r vs H Q) (p : P z o) : AN B r xs o P := fun F H θ σ ρ vs k r1 Q q =>
  h F H θ σ ρ vs k r1 Q fun w rw' => q w z F H θ o (Tw.refl F H θ) k rw' p
theorem rep_int {F : Hp} {v : V} {i : Int} (h : Rep F v (.int i)) : v = .int i := by cases h; rfl
theorem rep_str {F : Hp} {v : V} {i : Str} (h : Rep F v (.str i)) : v = .str i := by cases h; rfl
theorem rep_bl {F : Hp} {v : V} {i : Bool} (h : Rep F v (.bl i)) : v = .bl i := by cases h; rfl
theorem rep_non {F : Hp} {v : V} (h : Rep F v .non) : v = .non := by cases h; rfl
theorem i_I0 {g : Int → Int → Int} {i j : Int} (p : P (.da (.int (g i j))) o) : A2 B (rI0 fun i j => .int (g i j)) (.da (.int i)) (.da (.int j)) o P :=
  A2.of (z := .da (.int (g i j))) (fun F H θ σ ρ v u k r1 r2 Q q => ⟨i, j, rep_int r1, rep_int r2, q _ (Rep.int _)⟩) p
theorem i_I0b {g : Int → Int → Bool} {i j : Int} (p : P (.da (.bl (g i j))) o) : A2 B (rI0 fun i j => .bl (g i j)) (.da (.int i)) (.da (.int j)) o P :=
  A2.of (z := .da (.bl (g i j))) (fun F H θ σ ρ v u k r1 r2 Q q => ⟨i, j, rep_int r1, rep_int r2, q _ (Rep.bl _)⟩) p
theorem i_I {C : Int → Int → Prop} {g : Int → Int → Int} {i j : Int} (c : C i j) (p : P (.da (.int (g i j))) o) : A2 B (rI C fun i j => .int (g i j)) (.da (.int i)) (.da (.int j)) o P :=
  A2.of (z := .da (.int (g i j))) (fun F H θ σ ρ v u k r1 r2 Q q => ⟨i, j, rep_int r1, rep_int r2, c, q _ (Rep.int _)⟩) p
theorem A2.or1 {r r' : R2} {x y : Sl} (h : A2 B r x y o P) : A2 B (fun x y H Q => r x y H Q ∨ r' x y H Q) x y o P := fun F H θ σ ρ v u k r1 r2 Q q => .inl (h F H θ σ ρ v u k r1 r2 Q q)
theorem A2.or2 {r r' : R2} {x y : Sl} (h : A2 B r' x y o P) : A2 B (fun x y H Q => r x y H Q ∨ r' x y H Q) x y o P := fun F H θ σ ρ v u k r1 r2 Q q => .inr (h F H θ σ ρ v u k r1 r2 Q q)
theorem o_add {i j : Int} (p : P (.da (.int (i + j))) o) : A2 B rAddA (.da (.int i)) (.da (.int j)) o P := A2.or1 (i_I0 p)
theorem o_addS {i j : Str} (l : i.length + j.length ≤ sizeLine) (p : P (.da (.str (i ++ j))) o) : A2 B rAddA (.da (.str i)) (.da (.str j)) o P := A2.or2 (A2.or1 (
  A2.of (z := .da (.str (i ++ j))) (fun F H θ σ ρ v u k r1 r2 Q q => ⟨i, j, rep_str r1, rep_str r2, l, q _ (Rep.str _)⟩) p))
theorem o_sub {i j : Int} (p : P (.da (.int (i - j))) o) : A2 B rSubA (.da (.int i)) (.da (.int j)) o P := i_I0 p
theorem o_mul {i j : Int} (c : CMul i j) (p : P (.da (.int (i * j))) o) : A2 B rMulA (.da (.int i)) (.da (.int j)) o P := A2.or1 (i_I c p)
theorem o_mod {i j : Int} (c : 0 < j) (p : P (.da (.int (i % j))) o) : A2 B rModA (.da (.int i)) (.da (.int j)) o P := i_I c p
theorem o_div {i j : Int} (c : CDivW i j) (p : P (.da (.int (i / j))) o) : A2 B rDivA (.da (.int i)) (.da (.int j)) o P := i_I c p
theorem o_pow {i j : Int} (c : CPow i j) (p : P (.da (.int (i ^ j.toNat))) o) : A2 B rPowA (.da (.int i)) (.da (.int j)) o P := i_I c p
theorem o_and {i j : Int} (p : P (.da (.int (Builtin.bitAnd i j))) o) : A2 B rAndA (.da (.int i)) (.da (.int j)) o P := i_I0 p
theorem o_bor {i j : Int} (p : P (.da (.int (Builtin.bitOr i j))) o) : A2 B rBorA (.da (.int i)) (.da (.int j)) o P := i_I0 p
theorem o_shl {i j : Int} (c : CPow i j) (p : P (.da (.int (i * 2 ^ j.toNat))) o) : A2 B rShlA (.da (.int i)) (.da (.int j)) o P := i_I c p
theorem o_neg {i : Int} (p : P (.da (.int (-i))) o) : A1 B rUnA (.da (.int i)) o P := A1.of (z := .da (.int (-i))) (fun F H θ σ ρ v k r1 Q q => ⟨i, rep_int r1, q _ (Rep.int _)⟩) p
theorem o_lt {i j : Int} (p : P (.da (.bl (decide (i < j)))) o) : A2 B rLtA (.da (.int i)) (.da (.int j)) o P := A2.or1 (i_I0b p)
theorem o_le {i j : Int} (p : P (.da (.bl (decide (i ≤ j)))) o) : A2 B rLeA (.da (.int i)) (.da (.int j)) o P := i_I0b p
theorem o_gt {i j : Int} (p : P (.da (.bl (decide (j < i)))) o) : A2 B rGtA (.da (.int i)) (.da (.int j)) o P := i_I0b p
theorem o_ge {i j : Int} (p : P (.da (.bl (decide (j ≤ i)))) o) : A2 B rGeA (.da (.int i)) (.da (.int j)) o P := i_I0b p
/-- is None -/
def isN : Sl → Bool
  | .da .non => true
  | _ => false
theorem RepS.isN {F : Hp} {θ : List Addr} {v : V} {s : Sl} (h : RepS F θ v s) (hr : ∀ w, s ≠ .da (.raw w)) : decide (v = .non) = AB.isN s := by
  cases s with
  | ow j => obtain ⟨a, rfl, _⟩ := h; rfl
  | da d =>
    cases h with
    | raw v => exact absurd rfl (hr v)
    | _ => rfl
theorem o_is {x : Sl} (hr : ∀ w, x ≠ .da (.raw w)) (p : P (.da (.bl (isN x))) o) : A2 B rIsA x (.da .non) o P :=
  A2.of (z := .da (.bl (isN x))) (fun F H θ σ ρ v u k r1 r2 Q q => ⟨rep_non r2, q _ (by rw [r1.isN hr]; exact Rep.bl _)⟩) p
theorem o_isNot {x : Sl} (hr : ∀ w, x ≠ .da (.raw w)) (p : P (.da (.bl (!isN x))) o) : A2 B rIsNotA x (.da .non) o P :=
  A2.of (z := .da (.bl (!isN x))) (fun F H θ σ ρ v u k r1 r2 Q q => ⟨rep_non r2, q _ (by rw [r1.isN hr]; exact Rep.bl _)⟩) p
theorem Dp.mono {F H : Hp} (e : Ex F H) {v : V} {d : D} (h : Rep F v d) (hp : d.py.plain = true) : Dp K H v d.py := (h.mono e).dp hp
theorem o_eq {x y : D} (hx : x.py.plain = true) (hy : y.py.plain = true) (hm : min x.py.depth y.py.depth ≤ 60) (p : P (.da (.bl (PyData.eqv x.py y.py))) o) : A2 B (rEqP K) (.da x) (.da y) o P :=
  A2.of (z := .da (.bl _)) (fun F H θ σ ρ v u k r1 r2 Q q => ⟨_, _, Dp.mono k.fh r1 hx, Dp.mono k.fh r2 hy, hx, hy, hm, q _ (Rep.bl _)⟩) p
theorem o_ne {x y : D} (hx : x.py.plain = true) (hy : y.py.plain = true) (hm : min x.py.depth y.py.depth ≤ 60) (p : P (.da (.bl (!PyData.eqv x.py y.py))) o) : A2 B (rNeP K) (.da x) (.da y) o P :=
  A2.of (z := .da (.bl _)) (fun F H θ σ ρ v u k r1 r2 Q q => ⟨_, _, Dp.mono k.fh r1 hx, Dp.mono k.fh r2 hy, hx, hy, hm, q _ (Rep.bl _)⟩) p
/-- in a list, in a tuple -/
theorem o_inL {x : D} {ds : List D} (hx : x.py.plain = true) (hy : PyData.plainAll (D.pyL ds) = true) (hm : x.py.depth ≤ 60) (p : P (.da (.bl ((D.pyL ds).any fun z => PyData.eqv z x.py))) o) : A2 B (rInA K) (.da x) (.da (.lst ds)) o P := A2.or1 (
  A2.of (z := .da (.bl _)) (fun F H θ σ ρ v u k r1 r2 Q q => ⟨_, _, Dp.mono k.fh r1 hx, .inl (by have := Dp.mono (K := K) k.fh r2 (by simpa [D.py, PyData.plain] using hy); rw [D.py] at this; exact this), hx, hy, hm, q _ (Rep.bl _)⟩) p)
theorem o_inT {x : D} {ds : List D} (hx : x.py.plain = true) (hy : PyData.plainAll (D.pyL ds) = true) (hm : x.py.depth ≤ 60) (p : P (.da (.bl ((D.pyL ds).any fun z => PyData.eqv z x.py))) o) : A2 B (rInA K) (.da x) (.da (.tup ds)) o P := A2.or1 (
  A2.of (z := .da (.bl _)) (fun F H θ σ ρ v u k r1 r2 Q q => ⟨_, _, Dp.mono k.fh r1 hx, .inr (by have := Dp.mono (K := K) k.fh r2 (by simpa [D.py, PyData.plain] using hy); rw [D.py] at this; exact this), hx, hy, hm, q _ (Rep.bl _)⟩) p)
theorem o_notInL {x : D} {ds : List D} (hx : x.py.plain = true) (hy : PyData.plainAll (D.pyL ds) = true) (hm : x.py.depth ≤ 60) (p : P (.da (.bl (!((D.pyL ds).any fun z => PyData.eqv z x.py)))) o) : A2 B (rNotInA K) (.da x) (.da (.lst ds)) o P := A2.or1 (
  A2.of (z := .da (.bl _)) (fun F H θ σ ρ v u k r1 r2 Q q => ⟨_, _, Dp.mono k.fh r1 hx, .inl (by have := Dp.mono (K := K) k.fh r2 (by simpa [D.py, PyData.plain] using hy); rw [D.py] at this; exact this), hx, hy, hm, q _ (Rep.bl _)⟩) p)
theorem o_notInT {x : D} {ds : List D} (hx : x.py.plain = true) (hy : PyData.plainAll (D.pyL ds) = true) (hm : x.py.depth ≤ 60) (p : P (.da (.bl (!((D.pyL ds).any fun z => PyData.eqv z x.py)))) o) : A2 B (rNotInA K) (.da x) (.da (.tup ds)) o P := A2.or1 (
  A2.of (z := .da (.bl _)) (fun F H θ σ ρ v u k r1 r2 Q q => ⟨_, _, Dp.mono k.fh r1 hx, .inr (by have := Dp.mono (K := K) k.fh r2 (by simpa [D.py, PyData.plain] using hy); rw [D.py] at this; exact this), hx, hy, hm, q _ (Rep.bl _)⟩) p)
/-- what may be read as a list -/
def LL (o : O) : Sl → List Sl → Prop
  | .da (.lst ds), ss => ss = ds.map Sl.da
  | .ow j, ss => o[j]? = some (.lst ss)
  | _, _ => False
theorem LL.at {F H : Hp} {θ : List Addr} {σ : St} {v : V} {s : Sl} {ss : List Sl} (h : LL o s ss) (k : Ok B F H θ σ ρ o) (r : RepS F θ v s) : ∃ a xs, v = .ref a ∧ H a = some (.lst xs) ∧ RepSL F θ xs ss := by
  cases s with
  | ow j =>
    obtain ⟨a, rfl, ha⟩ := r
    obtain ⟨b, hb, xs, h1, h2⟩ := k.own h
    rw [ha] at hb; cases hb
    exact ⟨a, xs, rfl, h1, h2⟩
  | da d =>
    cases r with
    | @lst a xs ds e rl =>
      obtain rfl : ss = ds.map Sl.da := h
      exact ⟨a, xs, rfl, k.fh a _ e, all_da rl⟩
    | _ => exact h.elim
theorem RepSL.get {F : Hp} {θ : List Addr} : ∀ {vs : List V} {ss : List Sl} {i : Nat} {s : Sl}, RepSL F θ vs ss → ss[i]? = some s → ∃ v, vs[i]? = some v ∧ RepS F θ v s
  | _, _, i, _, .nil, e => by simp at e
  | _, _, 0, _, .cons h _, e => by simp at e; subst e; exact ⟨_, rfl, h⟩
  | _, _, i + 1, _, .cons _ r, e => by
    have e' := e
    simp only [List.getElem?_cons_succ] at e' ⊢
    exact RepSL.get r e'
theorem RepSL.app {F : Hp} {θ : List Addr} {vs ws : List V} {ss ts : List Sl} : RepSL F θ vs ss → RepSL F θ ws ts → RepSL F θ (vs ++ ws) (ss ++ ts)
  | .nil, r => r
  | .cons h t, r => .cons h (RepSL.app t r)
theorem atI_eq {α : Type} {xs : List α} {i : Int} {v : α} (h : atI xs i = some v) : ∃ j, ixN xs.length i = some j ∧ xs[j]? = some v := by
  unfold atI at h
  cases e : ixN xs.length i with
  | none => rw [e] at h; cases h
  | some j => rw [e] at h; exact ⟨j, rfl, h⟩
theorem atI_of {α : Type} {xs : List α} {i : Int} {j : Nat} {v : α} (h : ixN xs.length i = some j) (h2 : xs[j]? = some v) : atI xs i = some v := by
  unfold atI
  rw [h]
  exact h2
theorem o_ixL {x : Sl} {ss : List Sl} {i : Int} {s : Sl} (h : LL o x ss) (e : atI ss i = some s) (p : P s o) : A2 B (rIxA K) x (.da (.int i)) o P := A2.or1 (A2.or1 (
  A2.of (z := s) (fun F H θ σ ρ v u k r1 r2 Q q => by
    obtain ⟨a, xs, rfl, ha, rl⟩ := h.at k r1
    obtain ⟨j, e1, e2⟩ := atI_eq e
    obtain ⟨w, h1, h2⟩ := rl.get e2
    exact ⟨a, xs, i, w, rfl, rep_int r2, SqL.of ha, atI_of (by rw [Paired.len rl]; exact e1) h1, q w h2⟩) p))
theorem o_ix {ds : List D} {i : Int} {d : D} (e : atI ds i = some d) (p : P (.da d) o) : A2 B (rIxA K) (.da (.lst ds)) (.da (.int i)) o P :=
  o_ixL (ss := ds.map Sl.da) rfl (by
    obtain ⟨j, e1, e2⟩ := atI_eq e
    exact atI_of (by rw [List.length_map]; exact e1) (by rw [List.getElem?_map, e2]; rfl)) p
theorem o_ixT {ds : List D} {i : Int} {d : D} (e : atI ds i = some d) (p : P (.da d) o) : A2 B (rIxA K) (.da (.tup ds)) (.da (.int i)) o P := A2.or1 (A2.or2 (A2.or1 (
  A2.of (z := .da d) (fun F H θ σ ρ v u k r1 r2 Q q => by
    cases r1 with
    | @tup a xs _ ea rl =>
      obtain ⟨j, e1, e2⟩ := atI_eq e
      obtain ⟨w, h1, h2⟩ := rl.got e2
      exact ⟨a, xs, i, w, rfl, rep_int r2, SqT.of (k.fh a _ ea), atI_of (by rw [rl.len]; exact e1) h1, q w h2⟩) p)))
theorem o_ixS {z : Str} {i : Int} {c : Nat} (hl : z.length ≤ sizeLine) (e : atI z.cps.toList i = some c) (p : P (.da (.str ⟨#[c]⟩)) o) : A2 B (rIxA K) (.da (.str z)) (.da (.int i)) o P := A2.or1 (A2.or2 (A2.or2 (
  A2.of (z := .da (.str ⟨#[c]⟩)) (fun F H θ σ ρ v u k r1 r2 Q q => ⟨z, i, c, rep_str r1, rep_int r2, hl, e, q _ (Rep.str _)⟩) p)))
/-! dicts -/
def keyD : Key → D
  | .inl i => .int i
  | .inr x => .str x
theorem rep_key {F : Hp} {v : V} {k : Key} (h : Rep F v (keyD k)) : v = kV k := by
  cases k with
  | inl i => exact rep_int h
  | inr x => exact rep_str h
def getK {α : Type} (l : List (Key × α)) (k : Key) : Option α := (l.find? fun kv => decide (kv.1 = k)).map (·.2)
theorem RepK.get {F : Hp} {k : Key} : ∀ {ks : List (Key × V)} {ds : List (Key × D)}, RepK F ks ds → (∀ d, getK ds k = some d → ∃ v, valV ks k = some v ∧ Rep F v d) ∧ (getK ds k = none → valV ks k = none)
  | _, _, .nil => ⟨fun d h => (by cases h), fun _ => rfl⟩
  | _, _, @RepK.cons _ k' v vs d ds h r => by
    by_cases e : k' = k
    · have e1 : getK ((k', d) :: ds) k = some d := by simp [getK, e]
      have e2 : valV ((k', v) :: vs) k = some v := by simp [valV, e]
      rw [e1, e2]
      exact ⟨fun d' q => by cases q; exact ⟨v, rfl, h⟩, fun q => by cases q⟩
    · have e1 : getK ((k', d) :: ds) k = getK ds k := by simp [getK, e]
      have e2 : valV ((k', v) :: vs) k = valV vs k := by simp [valV, e]
      rw [e1, e2]
      exact RepK.get r
theorem RepSK.get {F : Hp} {θ : List Addr} {k : Key} : ∀ {ks : List (Key × V)} {ds : List (Key × Sl)}, RepSK F θ ks ds → (∀ d, getK ds k = some d → ∃ v, valV ks k = some v ∧ RepS F θ v d) ∧ (getK ds k = none → valV ks k = none)
  | _, _, .nil => ⟨fun d h => (by cases h), fun _ => rfl⟩
  | (k', v) :: vs, (k'', d) :: ds, .cons ⟨e0, h⟩ r => by
    obtain rfl : k' = k'' := e0
    by_cases e : k' = k
    · have e1 : getK ((k', d) :: ds) k = some d := by simp [getK, e]
      have e2 : valV ((k', v) :: vs) k = some v := by simp [valV, e]
      rw [e1, e2]
      exact ⟨fun d' q => by cases q; exact ⟨v, rfl, h⟩, fun q => by cases q⟩
    · have e1 : getK ((k', d) :: ds) k = getK ds k := by simp [getK, e]
      have e2 : valV ((k', v) :: vs) k = valV vs k := by simp [valV, e]
      rw [e1, e2]
      exact RepSK.get r
theorem o_ixD {ds : List (Key × D)} {k : Key} {d : D} (e : getK ds k = some d) (p : P (.da d) o) : A2 B (rIxA K) (.da (.dic ds)) (.da (keyD k)) o P := A2.or2 (
  A2.of (z := .da d) (fun F H θ σ ρ v u ok r1 r2 Q q => by
    cases r1 with
    | @dic a ks _ ea rk =>
      obtain ⟨w, h1, h2⟩ := (rk.get (k := k)).1 d e
      have ey := rep_key r2
      subst ey
      exact ⟨a, w, rfl, by rw [← h1]; exact DGet.k (ok.fh a _ ea), q w h2⟩) p)
theorem o_ixDO {j : Nat} {ds : List (Key × Sl)} {k : Key} {d : Sl} (h : o[j]? = some (.dic ds)) (e : getK ds k = some d) (p : P d o) : A2 B (rIxA K) (.ow j) (.da (keyD k)) o P := A2.or2 (
  A2.of (z := d) (fun F H θ σ ρ v u ok r1 r2 Q q => by
    obtain ⟨a, rfl, ha⟩ := r1
    obtain ⟨b, hb, ks, h1, rk⟩ := ok.own h
    rw [ha] at hb; cases hb
    obtain ⟨w, h3, h4⟩ := (rk.get (k := k)).1 d e
    have ey := rep_key r2
    subst ey
    exact ⟨a, w, rfl, by rw [← h3]; exact DGet.k h1, q w h4⟩) p)
theorem o_inD {ds : List (Key × D)} {k : Key} (p : P (.da (.bl (getK ds k).isSome)) o) : A2 B (rInA K) (.da (keyD k)) (.da (.dic ds)) o P := A2.or2 (A2.or1 (
  A2.of (z := .da (.bl (getK ds k).isSome)) (fun F H θ σ ρ v u ok r1 r2 Q q => by
    cases r2 with
    | @dic a ks _ ea rk =>
      have ey := rep_key r1
      subst ey
      refine ⟨a, _, rfl, DGet.k (ok.fh a _ ea), ?_⟩
      have : (valV ks k).isSome = (getK ds k).isSome := by
        cases e : getK ds k with
        | none => rw [(rk.get (k := k)).2 e] <;> rfl
        | some d => obtain ⟨w, h1, _⟩ := (rk.get (k := k)).1 d e; rw [h1]; rfl
      rw [this]
      exact q _ (Rep.bl _)) p))
theorem o_notInD {ds : List (Key × D)} {k : Key} (p : P (.da (.bl (!(getK ds k).isSome))) o) : A2 B (rNotInA K) (.da (keyD k)) (.da (.dic ds)) o P := A2.or2 (A2.or1 (
  A2.of (z := .da (.bl (!(getK ds k).isSome))) (fun F H θ σ ρ v u ok r1 r2 Q q => by
    cases r2 with
    | @dic a ks _ ea rk =>
      have ey := rep_key r1
      subst ey
      refine ⟨a, _, rfl, DGet.k (ok.fh a _ ea), ?_⟩
      have : (valV ks k).isSome = (getK ds k).isSome := by
        cases e : getK ds k with
        | none => rw [(rk.get (k := k)).2 e] <;> rfl
        | some d => obtain ⟨w, h1, _⟩ := (rk.get (k := k)).1 d e; rw [h1]; rfl
      rw [this]
      exact q _ (Rep.bl _)) p))
theorem o_inDO {j : Nat} {ds : List (Key × Sl)} {k : Key} (h : o[j]? = some (.dic ds)) (p : P (.da (.bl (getK ds k).isSome)) o) : A2 B (rInA K) (.da (keyD k)) (.ow j) o P := A2.or2 (A2.or1 (
  A2.of (z := .da (.bl (getK ds k).isSome)) (fun F H θ σ ρ v u ok r1 r2 Q q => by
    obtain ⟨a, rfl, ha⟩ := r2
    obtain ⟨b, hb, ks, h1, rk⟩ := ok.own h
    rw [ha] at hb; cases hb
    have ey := rep_key r1
    subst ey
    refine ⟨a, _, rfl, DGet.k h1, ?_⟩
    have : (valV ks k).isSome = (getK ds k).isSome := by
      cases e : getK ds k with
      | none => rw [(rk.get (k := k)).2 e] <;> rfl
      | some d => obtain ⟨w, h1, _⟩ := (rk.get (k := k)).1 d e; rw [h1]; rfl
    rw [this]
    exact q _ (Rep.bl _)) p))
theorem o_notInDO {j : Nat} {ds : List (Key × Sl)} {k : Key} (h : o[j]? = some (.dic ds)) (p : P (.da (.bl (!(getK ds k).isSome))) o) : A2 B (rNotInA K) (.da (keyD k)) (.ow j) o P := A2.or2 (A2.or1 (
  A2.of (z := .da (.bl (!(getK ds k).isSome))) (fun F H θ σ ρ v u ok r1 r2 Q q => by
    obtain ⟨a, rfl, ha⟩ := r2
    obtain ⟨b, hb, ks, h1, rk⟩ := ok.own h
    rw [ha] at hb; cases hb
    have ey := rep_key r1
    subst ey
    refine ⟨a, _, rfl, DGet.k h1, ?_⟩
    have : (valV ks k).isSome = (getK ds k).isSome := by
      cases e : getK ds k with
      | none => rw [(rk.get (k := k)).2 e] <;> rfl
      | some d => obtain ⟨w, h1, _⟩ := (rk.get (k := k)).1 d e; rw [h1]; rfl
    rw [this]
    exact q _ (Rep.bl _)) p))
/-! built-ins -/
theorem n_len {x : Sl} {ss : List Sl} (h : LL o x ss) (p : P (.da (.int ss.length)) o) : AN B (rLenA K) [x] o P :=
  AN.of (z := .da (.int ss.length)) (fun F H θ σ ρ vs k r Q q => by
    cases r with
    | cons r rs =>
      cases rs
      obtain ⟨a, xs, rfl, ha, rl⟩ := h.at k r
      exact .inl ⟨.ref a, xs.length, rfl, .inl ⟨xs, SqL.of ha, rfl⟩, q _ (by rw [Paired.len rl]; exact Rep.int _)⟩) p
theorem n_lenT {ds : List D} (p : P (.da (.int ds.length)) o) : AN B (rLenA K) [.da (.tup ds)] o P :=
  AN.of (z := .da (.int ds.length)) (fun F H θ σ ρ vs k r Q q => by
    cases r with
    | cons r rs =>
      cases rs
      cases r with
      | @tup a xs _ ea rl => exact .inl ⟨.ref a, xs.length, rfl, .inr ⟨xs, SqT.of (k.fh a _ ea), rfl⟩, q _ (by rw [rl.len]; exact Rep.int _)⟩) p
theorem n_lenS {z : Str} (hl : z.length ≤ sizeLine) (p : P (.da (.int z.length)) o) : AN B (rLenA K) [.da (.str z)] o P :=
  AN.of (z := .da (.int z.length)) (fun F H θ σ ρ vs k r Q q => by
    cases r with
    | cons r rs =>
      cases rs
      have e := rep_str r
      subst e
      exact .inl ⟨.str z, z.length, rfl, ⟨hl, rfl⟩, q _ (Rep.int _)⟩) p
theorem n_str {i : Int} (h : i.natAbs.log2 < 1920) (p : P (.da (.str (toString i))) o) : AN B rStrI [.da (.int i)] o P :=
  AN.of (z := .da (.str (toString i))) (fun F H θ σ ρ vs k r Q q => by
    cases r with
    | cons r rs =>
      cases rs
      have e := rep_int r
      subst e
      exact ⟨i, rfl, h, q _ (Rep.str _)⟩) p
theorem n_int {i : Int} (p : P (.da (.int i)) o) : AN B rIntI [.da (.int i)] o P :=
  AN.of (z := .da (.int i)) (fun F H θ σ ρ vs k r Q q => by
    cases r with
    | cons r rs =>
      cases rs
      have e := rep_int r
      subst e
      exact .inl ⟨i, rfl, q _ (Rep.int _)⟩) p
theorem n_abs {i : Int} (p : P (.da (.int (if i < 0 then -i else i))) o) : AN B rAbsI [.da (.int i)] o P :=
  AN.of (z := .da (.int (if i < 0 then -i else i))) (fun F H θ σ ρ vs k r Q q => by
    cases r with
    | cons r rs =>
      cases rs
      have e := rep_int r
      subst e
      exact ⟨i, rfl, q _ (Rep.int _)⟩) p
theorem n_max2 {i j : Int} (p : P (.da (.int (if j > i then j else i))) o) : AN B (rMaxA K) [.da (.int i), .da (.int j)] o P :=
  AN.of (z := .da (.int (if j > i then j else i))) (fun F H θ σ ρ vs k r Q q => by
    cases r with
    | cons r rs =>
      cases rs with
      | cons r' rs =>
        cases rs
        have e := rep_int r
        have e' := rep_int r'
        subst e e'
        exact .inl ⟨i, j, rfl, q _ (Rep.int _)⟩) p
theorem n_min2 {i j : Int} (p : P (.da (.int (if j < i then j else i))) o) : AN B (rMinA K) [.da (.int i), .da (.int j)] o P :=
  AN.of (z := .da (.int (if j < i then j else i))) (fun F H θ σ ρ vs k r Q q => by
    cases r with
    | cons r rs =>
      cases rs with
      | cons r' rs =>
        cases rs
        have e := rep_int r
        have e' := rep_int r'
        subst e e'
        exact .inl ⟨i, j, rfl, q _ (Rep.int _)⟩) p
theorem ints_of {F : Hp} {θ : List Addr} : ∀ {ns : List Int} {vs : List V}, RepSL F θ vs (ns.map fun i => Sl.da (.int i)) → vs = ns.map V.int
  | [], [], _ => rfl
  | n :: ns, v :: vs, .cons h r => by rw [rep_int h, ints_of r]; rfl
theorem n_maxL {x : Sl} {ns : List Int} (h : LL o x (ns.map fun i => Sl.da (.int i))) (h0 : 0 < ns.length) (p : ∀ m, m ∈ ns → (∀ y, y ∈ ns → y ≤ m) → P (.da (.int m)) o) : AN B (rMaxA K) [x] o P := fun F H θ σ ρ vs k r Q q => by
  cases r with
  | cons r rs =>
    cases rs
    obtain ⟨a, xs, rfl, ha, rl⟩ := h.at k r
    have e := ints_of rl
    subst e
    exact .inr (.inl ⟨a, ns, rfl, SqL.of ha, h0, fun m h1 h2 => q _ (.da (.int m)) F H θ o (Tw.refl F H θ) k (RepS.dat (Rep.int m)) (p m h1 h2)⟩)
theorem n_minL {x : Sl} {ns : List Int} (h : LL o x (ns.map fun i => Sl.da (.int i))) (h0 : 0 < ns.length) (p : ∀ m, m ∈ ns → (∀ y, y ∈ ns → m ≤ y) → P (.da (.int m)) o) : AN B (rMinA K) [x] o P := fun F H θ σ ρ vs k r Q q => by
  cases r with
  | cons r rs =>
    cases rs
    obtain ⟨a, xs, rfl, ha, rl⟩ := h.at k r
    have e := ints_of rl
    subst e
    exact .inr (.inl ⟨a, ns, rfl, SqL.of ha, h0, fun m h1 h2 => q _ (.da (.int m)) F H θ o (Tw.refl F H θ) k (RepS.dat (Rep.int m)) (p m h1 h2)⟩)
theorem n_max3 {i j l : Int} (p : ∀ m : Int, i ≤ m → j ≤ m → l ≤ m → (m = i ∨ m = j ∨ m = l) → P (.da (.int m)) o) : AN B (rMaxA K) [.da (.int i), .da (.int j), .da (.int l)] o P := fun F H θ σ ρ vs k r Q q => by
  cases r with
  | cons r rs =>
    cases rs with
    | cons r' rs =>
      cases rs with
      | cons r'' rs =>
        cases rs
        have e := rep_int r
        have e' := rep_int r'
        have e'' := rep_int r''
        subst e e' e''
        refine .inr (.inr ⟨_, _, _, .int (if (if i < j then j else i) < l then l else if i < j then j else i), rfl, ?_, q _ (.da (.int _)) F H θ o (Tw.refl F H θ) k (RepS.dat (Rep.int _)) (p _ ?_ ?_ ?_ ?_)⟩)
        · unfold nuMax3 nuMax2 nuLt
          by_cases h1 : i < j
          · simp only [nuCB, h1, decide_true, Option.map_some, if_true, Option.bind_some]
            by_cases h2 : j < l <;> simp [nuCB, h2]
          · simp only [nuCB, h1, decide_false, Option.map_some, Option.bind_some, if_false]
            by_cases h2 : i < l <;> simp [nuCB, h2]
        · split <;> split at * <;> omega
        · split <;> split at * <;> omega
        · split <;> split at * <;> omega
        · split <;> split at * <;> omega
/-- list(x): as data, as an own object -/
theorem n_list {x : Sl} {ds : List D} (h : LL o x (ds.map Sl.da)) (p : P (.da (.lst ds)) o) : AN B (rListA K) [x] o P := fun F H θ σ ρ vs k r Q q => by
  cases r with
  | cons r rs =>
    cases rs
    obtain ⟨a, xs, rfl, ha, rl⟩ := h.at k r
    refine ⟨a, xs, rfl, .inl (SqL.of ha), fun l n => ?_⟩
    obtain ⟨t2, k2⟩ := k.put (u := .lst xs) n
    exact q _ _ _ _ _ _ t2.w k2 (RepS.dat (Rep.lst upd_same ((da_all rl).mono t2.ff))) p
theorem n_listO {x : Sl} {ss : List Sl} (h : LL o x ss) (p : P (.ow o.length) (o ++ [.lst ss])) : AN B (rListA K) [x] o P := fun F H θ σ ρ vs k r Q q => by
  cases r with
  | cons r rs =>
    cases rs
    obtain ⟨a, xs, rfl, ha, rl⟩ := h.at k r
    refine ⟨a, xs, rfl, .inl (SqL.of ha), fun l n => ?_⟩
    obtain ⟨t2, k2⟩ := k.lay (u := .lst xs) (w := .lst ss) n ⟨xs, upd_same, rl.mono (Ex.refl _) ⟨[l], rfl⟩⟩
    exact q _ _ _ _ _ _ t2.w k2 (RepS.own (by rw [← k.len, List.getElem?_append_right (Nat.le_refl _)]; simp)) p
end
end AB

set_option Elab.async false
set_option linter.all false
set_option maxRecDepth 100000
set_option maxHeartbeats 4000000
set_option autoImplicit false
namespace AB
open PySem L2 PySem.Spec PyProof.Rows
/-! ### loops -/
section
variable {B : Base} {ρ : R} {o : O} {P : Sl → O → Prop} {K : PySem.W.Frag} {D0 : AD} {tb : TS} {g : TG}
theorem s_forL {tl : TE} (h : AE B tl ρ o fun x o1 => ∃ ss, LL o1 x ss ∧ ∃ Pv : Nat → R → O → Prop, Pv 0 ρ o1 ∧ (∀ (i : Nat) ρ' o', i ≤ ss.length → Pv i ρ' o' → LL o' x ss) ∧
    (∀ (i : Nat) s ρ' o', ss[i]? = some s → Pv i ρ' o' → AG B g s ρ' o' fun ρ2 o2 => WS B tb { D0 with nx := Pv (i + 1), ct := Pv (i + 1), bk := D0.nx } ρ2 o2) ∧ ∀ ρ' o', Pv ss.length ρ' o' → D0.nx ρ' o') :
    WS B (tFor (iSq K tl) g tb) D0 ρ o := by
  intro F H θ σ k E hE
  refine h F H θ σ k _ fun v x F1 H1 θ1 o1 t1 k1 r1 p1 => ?_
  obtain ⟨ss, hL, Pv, h0, hl, hs, hd⟩ := p1
  obtain ⟨a, xs, rfl, ha, rl⟩ := hL.at k1 r1
  refine .inl ⟨a, rfl, ⟨xs, SqL.of ha⟩, ?_⟩
  refine ⟨fun i m σ' H' => m = ss.length - i ∧ i ≤ ss.length ∧ ∃ F' θ' ρ' o', Tw F1 H1 θ1 F' H' θ' ∧ Ok B F' H' θ' σ' ρ' o' ∧ Pv i ρ' o', ⟨_, rfl, Nat.zero_le _, F1, θ1, ρ, o1, Tw.refl F1 H1 θ1, k1, h0⟩, ?_⟩
  intro i m σ' H' hw
  obtain ⟨rfl, hi, F', θ', ρ', o', t', k', p⟩ := hw
  obtain ⟨a', xs', e, ha', rl'⟩ := (hl i ρ' o' hi p).at k' (r1.mono t'.ff t'.pre)
  cases e
  by_cases hlt : i < ss.length
  · obtain ⟨w, hw1, hw2⟩ := rl'.get (List.getElem?_eq_getElem hlt)
    refine .inr ⟨⟨xs', w, SqL.of ha', hw1⟩, fun σ2 H2 => ∃ F2 θ2 ρ2 o2, Tw F1 H1 θ1 F2 H2 θ2 ∧ Ok B F2 H2 θ2 σ2 ρ2 o2 ∧ Pv (i + 1) ρ2 o2, fun σ2 H2 n => ⟨_, by omega, rfl, hlt, n⟩, fun y H'' z => ?_⟩
    obtain ⟨e1, z⟩ := z
    subst e1
    have e2 := z xs' (SqL.of ha')
    rw [hw1] at e2
    obtain rfl : w = y := Option.some.inj e2
    refine hs i _ ρ' o' (List.getElem?_eq_getElem hlt) p F' H'' θ' σ' w k' hw2 _ fun F2 H2 θ2 σ2 ρ2 o2 t2 k2 p2 => ?_
    refine p2 F2 H2 θ2 σ2 k2 _ ⟨fun F3 H3 θ3 σ3 ρ3 o3 t3 k3 p3 => ⟨F3, θ3, ρ3, o3, (t'.trans t2).trans t3, k3, p3⟩, ?_, ?_, fun F3 H3 θ3 σ3 ρ3 o3 t3 k3 p3 => ⟨F3, θ3, ρ3, o3, (t'.trans t2).trans t3, k3, p3⟩⟩
    · exact fun F3 H3 θ3 σ3 ρ3 o3 v s t3 k3 r3 p3 => hE.rt F3 H3 θ3 σ3 ρ3 o3 v s (((t1.trans t').trans t2).trans t3) k3 r3 p3
    · exact fun F3 H3 θ3 σ3 ρ3 o3 t3 k3 p3 => hE.nx F3 H3 θ3 σ3 ρ3 o3 (((t1.trans t').trans t2).trans t3) k3 p3
  · have e : i = ss.length := by omega
    subst e
    exact .inl ⟨⟨xs', SqL.of ha', by rw [Paired.len rl']; exact Nat.le_refl _⟩, hE.nx F' H' θ' σ' ρ' o' (t1.trans t') k' (hd ρ' o' p)⟩
/-- over a list of data -/
theorem s_for {tl : TE} (h : AE B tl ρ o fun x o1 => ∃ ds, x = .da (.lst ds) ∧ ∃ Pv : Nat → R → O → Prop, Pv 0 ρ o1 ∧
    (∀ (i : Nat) d ρ' o', ds[i]? = some d → Pv i ρ' o' → AG B g (.da d) ρ' o' fun ρ2 o2 => WS B tb { D0 with nx := Pv (i + 1), ct := Pv (i + 1), bk := D0.nx } ρ2 o2) ∧ ∀ ρ' o', Pv ds.length ρ' o' → D0.nx ρ' o') :
    WS B (tFor (iSq K tl) g tb) D0 ρ o := s_forL (h.mono fun x o1 p => by
  obtain ⟨ds, rfl, Pv, h0, hs, hd⟩ := p
  refine ⟨ds.map Sl.da, rfl, Pv, h0, fun _ _ _ _ _ => rfl, fun i s ρ' o' e p => ?_, fun ρ' o' p => hd ρ' o' (by rw [List.length_map] at p; exact p)⟩
  rw [List.getElem?_map] at e
  cases e' : ds[i]? with
  | none => rw [e'] at e; cases e
  | some d =>
    rw [e'] at e
    cases e
    exact hs i d ρ' o' e' p)
/-- over a tuple of data -/
theorem s_forT {tl : TE} (h : AE B tl ρ o fun x o1 => ∃ ds, x = .da (.tup ds) ∧ ∃ Pv : Nat → R → O → Prop, Pv 0 ρ o1 ∧
    (∀ (i : Nat) d ρ' o', ds[i]? = some d → Pv i ρ' o' → AG B g (.da d) ρ' o' fun ρ2 o2 => WS B tb { D0 with nx := Pv (i + 1), ct := Pv (i + 1), bk := D0.nx } ρ2 o2) ∧ ∀ ρ' o', Pv ds.length ρ' o' → D0.nx ρ' o') :
    WS B (tFor (iSq K tl) g tb) D0 ρ o := by
  intro F H θ σ k E hE
  refine h F H θ σ k _ fun v x F1 H1 θ1 o1 t1 k1 r1 p1 => ?_
  obtain ⟨ds, rfl, Pv, h0, hs, hd⟩ := p1
  cases r1 with
  | @tup a xs _ ea rl =>
  refine .inr (.inl ⟨a, rfl, ⟨xs, SqT.of (k1.fh a _ ea)⟩, ?_⟩)
  refine ⟨fun i m σ' H' => m = ds.length - i ∧ i ≤ ds.length ∧ ∃ F' θ' ρ' o', Tw F1 H1 θ1 F' H' θ' ∧ Ok B F' H' θ' σ' ρ' o' ∧ Pv i ρ' o', ⟨_, rfl, Nat.zero_le _, F1, θ1, ρ, o1, Tw.refl F1 H1 θ1, k1, h0⟩, ?_⟩
  intro i m σ' H' hw
  obtain ⟨rfl, hi, F', θ', ρ', o', t', k', p⟩ := hw
  have ha' : H' a = some (.tup xs) := k'.fh a _ (t'.ff a _ ea)
  by_cases hlt : i < ds.length
  · obtain ⟨w, hw1, hw2⟩ := rl.got (List.getElem?_eq_getElem hlt)
    refine .inr ⟨⟨xs, w, SqT.of ha', hw1⟩, fun σ2 H2 => ∃ F2 θ2 ρ2 o2, Tw F1 H1 θ1 F2 H2 θ2 ∧ Ok B F2 H2 θ2 σ2 ρ2 o2 ∧ Pv (i + 1) ρ2 o2, fun σ2 H2 n => ⟨_, by omega, rfl, hlt, n⟩, fun y H'' z => ?_⟩
    obtain ⟨e1, z⟩ := z
    subst e1
    have e2 := z xs (SqT.of ha')
    rw [hw1] at e2
    obtain rfl : w = y := Option.some.inj e2
    refine hs i _ ρ' o' (List.getElem?_eq_getElem hlt) p F' H'' θ' σ' w k' (RepS.dat (hw2.mono t'.ff)) _ fun F2 H2 θ2 σ2 ρ2 o2 t2 k2 p2 => ?_
    refine p2 F2 H2 θ2 σ2 k2 _ ⟨fun F3 H3 θ3 σ3 ρ3 o3 t3 k3 p3 => ⟨F3, θ3, ρ3, o3, (t'.trans t2).trans t3, k3, p3⟩, ?_, ?_, fun F3 H3 θ3 σ3 ρ3 o3 t3 k3 p3 => ⟨F3, θ3, ρ3, o3, (t'.trans t2).trans t3, k3, p3⟩⟩
    · exact fun F3 H3 θ3 σ3 ρ3 o3 v s t3 k3 r3 p3 => hE.rt F3 H3 θ3 σ3 ρ3 o3 v s (((t1.trans t').trans t2).trans t3) k3 r3 p3
    · exact fun F3 H3 θ3 σ3 ρ3 o3 t3 k3 p3 => hE.nx F3 H3 θ3 σ3 ρ3 o3 (((t1.trans t').trans t2).trans t3) k3 p3
  · have e : i = ds.length := by omega
    subst e
    exact .inl ⟨⟨xs, SqT.of ha', by rw [rl.len]; exact Nat.le_refl _⟩, hE.nx F' H' θ' σ' ρ' o' (t1.trans t') k' (hd ρ' o' p)⟩
/-- over lo, lo + 1, .. -/
theorem s_forR {lo : Int} {n : Nat} {F1 H1 : Hp} {θ1 : List Addr} {σ : St} {o1 : O} {E : Ends} (k1 : Ok B F1 H1 θ1 σ ρ o1) (hE : Sat B F1 H1 θ1 D0 E) (Pv : Nat → R → O → Prop) (h0 : Pv 0 ρ o1)
    (hs : ∀ (i : Nat) ρ' o', i < n → Pv i ρ' o' → AG B g (.da (.int (lo + i))) ρ' o' fun ρ2 o2 => WS B tb { D0 with nx := Pv (i + 1), ct := Pv (i + 1), bk := D0.nx } ρ2 o2) (hd : ∀ ρ' o', Pv n ρ' o' → D0.nx ρ' o') :
    ∃ W : Nat → Nat → L2.St → Hp → Prop, (∃ m, W 0 m σ H1) ∧ ∀ i m σ H, W i m σ H →
      ((Itr lo n).stop i H ∧ E.nx σ H) ∨ ((Itr lo n).go i H ∧ ∃ N : L2.St → Hp → Prop, (∀ σ' H', N σ' H' → ∃ m', m' < m ∧ W (i + 1) m' σ' H') ∧ ∀ x H', (Itr lo n).yld i H x H' → g x σ H' fun σ2 H2 => tb { E with nx := N, ct := N, bk := E.nx } σ2 H2) := by
  refine for_range (fun i σ' H' => ∃ F' θ' ρ' o', Tw F1 H1 θ1 F' H' θ' ∧ Ok B F' H' θ' σ' ρ' o' ∧ Pv i ρ' o') ⟨F1, θ1, ρ, o1, Tw.refl F1 H1 θ1, k1, h0⟩ (fun i σ' H' hi hw => ?_) (fun σ' H' hw => ?_)
  · obtain ⟨F', θ', ρ', o', t', k', p⟩ := hw
    refine hs i ρ' o' hi p F' H' θ' σ' _ k' (RepS.dat (Rep.int _)) _ fun F2 H2 θ2 σ2 ρ2 o2 t2 k2 p2 => ?_
    refine p2 F2 H2 θ2 σ2 k2 _ ⟨fun F3 H3 θ3 σ3 ρ3 o3 t3 k3 p3 => ⟨F3, θ3, ρ3, o3, (t'.trans t2).trans t3, k3, p3⟩, ?_, ?_, fun F3 H3 θ3 σ3 ρ3 o3 t3 k3 p3 => ⟨F3, θ3, ρ3, o3, (t'.trans t2).trans t3, k3, p3⟩⟩
    · exact fun F3 H3 θ3 σ3 ρ3 o3 v s t3 k3 r3 p3 => hE.rt F3 H3 θ3 σ3 ρ3 o3 v s ((t'.trans t2).trans t3) k3 r3 p3
    · exact fun F3 H3 θ3 σ3 ρ3 o3 t3 k3 p3 => hE.nx F3 H3 θ3 σ3 ρ3 o3 ((t'.trans t2).trans t3) k3 p3
  · obtain ⟨F', θ', ρ', o', t', k', p⟩ := hw
    exact hE.nx F' H' θ' σ' ρ' o' t' k' (hd ρ' o' p)
theorem s_range1 {t : TA} (h : AA B t ρ o fun xs o1 => ∃ j : Int, xs = [.da (.int j)] ∧ -(2 ^ 62) ≤ j ∧ j < 2 ^ 62 ∧ ∃ Pv : Nat → R → O → Prop, Pv 0 ρ o1 ∧
    (∀ (i : Nat) ρ' o', i < j.toNat → Pv i ρ' o' → AG B g (.da (.int (i : Int))) ρ' o' fun ρ2 o2 => WS B tb { D0 with nx := Pv (i + 1), ct := Pv (i + 1), bk := D0.nx } ρ2 o2) ∧ ∀ ρ' o', Pv j.toNat ρ' o' → D0.nx ρ' o') :
    WS B (tFor (iRng1 t) g tb) D0 ρ o := by
  intro F H θ σ k E hE
  refine h F H θ σ k _ fun vs xs F1 H1 θ1 o1 t1 k1 r1 p1 => ?_
  obtain ⟨j, rfl, h1, h2, Pv, h0, hs, hd⟩ := p1
  cases r1 with
  | cons r rs =>
    cases rs
    have e := rep_int r
    subst e
    refine ⟨j, rfl, h1, h2, s_forR k1 (hE.on t1) Pv h0 (fun i ρ' o' hi p => ?_) hd⟩
    rw [Int.zero_add]
    exact hs i ρ' o' hi p
theorem s_range2 {t : TA} (h : AA B t ρ o fun xs o1 => ∃ a j : Int, xs = [.da (.int a), .da (.int j)] ∧ (-(2 ^ 62) ≤ a ∧ a < 2 ^ 62 ∧ -(2 ^ 62) ≤ j ∧ j < 2 ^ 62) ∧ ∃ Pv : Nat → R → O → Prop, Pv 0 ρ o1 ∧
    (∀ (i : Nat) ρ' o', i < (j - a).toNat → Pv i ρ' o' → AG B g (.da (.int (a + i))) ρ' o' fun ρ2 o2 => WS B tb { D0 with nx := Pv (i + 1), ct := Pv (i + 1), bk := D0.nx } ρ2 o2) ∧ ∀ ρ' o', Pv (j - a).toNat ρ' o' → D0.nx ρ' o') :
    WS B (tFor (iRng2 t) g tb) D0 ρ o := by
  intro F H θ σ k E hE
  refine h F H θ σ k _ fun vs xs F1 H1 θ1 o1 t1 k1 r1 p1 => ?_
  obtain ⟨a, j, rfl, hb, Pv, h0, hs, hd⟩ := p1
  cases r1 with
  | cons r rs =>
    cases rs with
    | cons r' rs =>
      cases rs
      have e := rep_int r
      have e' := rep_int r'
      subst e e'
      exact ⟨a, j, rfl, hb, s_forR k1 (hE.on t1) Pv h0 hs hd⟩
theorem s_while {c : TT} (Pv : Nat → R → O → Prop) (m0 : Nat) (h0 : Pv m0 ρ o)
    (hs : ∀ m ρ' o', Pv m ρ' o' → AT B c ρ' o' fun b o1 => if b = true then WS B tb { D0 with nx := fun ρ o => ∃ m', m' < m ∧ Pv m' ρ o, ct := fun ρ o => ∃ m', m' < m ∧ Pv m' ρ o, bk := D0.nx } ρ' o1 else D0.nx ρ' o1) : WS B (tWhile c tb) D0 ρ o := by
  intro F H θ σ k E hE
  refine ⟨fun m σ' H' => ∃ F' θ' ρ' o', Tw F H θ F' H' θ' ∧ Ok B F' H' θ' σ' ρ' o' ∧ Pv m ρ' o', ⟨m0, F, θ, ρ, o, Tw.refl F H θ, k, h0⟩, fun m σ' H' hw => ?_⟩
  obtain ⟨F', θ', ρ', o', t', k', p⟩ := hw
  refine hs m ρ' o' p F' H' θ' σ' k' _ fun b F1 H1 θ1 o1 t1 k1 p1 => ?_
  cases b with
  | true =>
    refine ⟨fun σ2 H2 => ∃ m', m' < m ∧ ∃ F2 θ2 ρ2 o2, Tw F H θ F2 H2 θ2 ∧ Ok B F2 H2 θ2 σ2 ρ2 o2 ∧ Pv m' ρ2 o2, fun _ _ n => n, ?_⟩
    refine p1 F1 H1 θ1 σ' k1 _ ⟨fun F3 H3 θ3 σ3 ρ3 o3 t3 k3 p3 => ?_, ?_, ?_, fun F3 H3 θ3 σ3 ρ3 o3 t3 k3 p3 => ?_⟩
    · obtain ⟨m', l, p3⟩ := p3
      exact ⟨m', l, F3, θ3, ρ3, o3, (t'.trans t1).trans t3, k3, p3⟩
    · exact fun F3 H3 θ3 σ3 ρ3 o3 v s t3 k3 r3 p3 => hE.rt F3 H3 θ3 σ3 ρ3 o3 v s ((t'.trans t1).trans t3) k3 r3 p3
    · exact fun F3 H3 θ3 σ3 ρ3 o3 t3 k3 p3 => hE.nx F3 H3 θ3 σ3 ρ3 o3 ((t'.trans t1).trans t3) k3 p3
    · obtain ⟨m', l, p3⟩ := p3
      exact ⟨m', l, F3, θ3, ρ3, o3, (t'.trans t1).trans t3, k3, p3⟩
  | false => exact hE.nx F1 H1 θ1 σ' ρ' o1 (t'.trans t1) k1 p1
/-! ### comprehensions -/
def wipeR (ρ : R) : List Nat → R
  | [] => ρ
  | v :: vs => (wipeR ρ vs).set v none
theorem Sls.wipe {F : Hp} {θ : List Addr} {σ : L2.St} {ρ : R} (h : Sls F θ σ ρ) : ∀ vs : List Nat, Sls F θ (L2.wipe σ vs) (wipeR ρ vs)
  | [] => h
  | _ :: vs => Sls.none (h.wipe vs) Option.none
/-- the list that is being made -/
structure Made (F H : Hp) (θ : List Addr) (l : Addr) (acc : List D) : Prop where
  at_ : ∃ vs, H l = some (.lst vs) ∧ RepL F vs acc
  fr : F l = none
  nm : l ∉ θ
theorem Made.on {F H F' H' : Hp} {θ θ' : List Addr} {l : Addr} {acc : List D} (m : Made F H θ l acc) (t : Tw F H θ F' H' θ') : Made F' H' θ' l acc := by
  obtain ⟨vs, h1, h2⟩ := m.at_
  refine ⟨⟨vs, t.kp l _ h1 m.nm, h2.mono t.ff⟩, t.nf l _ m.nm m.fr h1, fun z => ?_⟩
  rcases t.nt l z with q | q
  · exact m.nm q
  · rw [h1] at q; cases q
/-- a known object that is neither own nor stays is written -/
theorem Ok.writ {F H : Hp} {θ : List Addr} {σ : L2.St} {ρ : R} {o : O} {l : Addr} {u w : HO} (k : Ok B F H θ σ ρ o) (hn : B.H l = none) (h0 : H l = some w) (hf : F l = none) (hm : l ∉ θ) : Ok B F (upd H l u) θ σ ρ o := by
  refine ⟨⟨k.tr.ff, k.tr.pre, fun a v h n => ?_, fun a h => ?_, k.tr.nw, k.tr.nt⟩, fun a v h => ?_, k.len, k.nd, k.fr, fun j a v h1 h2 => ?_, k.sl⟩
  · rw [upd_ne (fun e => by rw [e, hn] at h; cases h)]
    exact k.tr.kp a v h n
  · by_cases e : a = l
    · rw [e]; exact hn
    · rw [upd_ne e] at h; exact k.tr.th a h
  · rw [upd_ne (fun e => by rw [e, hf] at h; cases h)]
    exact k.fh a v h
  · refine (k.ob j a v h1 h2).at fun v' h => ?_
    rw [upd_ne (fun e => hm (by rw [← e]; exact List.mem_of_getElem? h1))]
    exact h
/-- a known object comes to stay -/
theorem Ok.stay {F H : Hp} {θ : List Addr} {σ : L2.St} {ρ : R} {o : O} {l : Addr} {u : HO} (k : Ok B F H θ σ ρ o) (hn : B.H l = none) (h0 : H l = some u) (hf : F l = none) (hm : l ∉ θ) : Ok B (upd F l u) H θ σ ρ o ∧ Ex F (upd F l u) := by
  have e := Ex.new (o := u) hf
  refine ⟨⟨⟨k.tr.ff.trans e, k.tr.pre, k.tr.kp, k.tr.th, fun a v h => ?_, k.tr.nt⟩, fun a v h => ?_, k.len, k.nd, fun j a v h1 h2 h3 => ?_, fun j a v h1 h2 => (k.ob j a v h1 h2).mono e ⟨[], by simp⟩, k.sl.mono e ⟨[], by simp⟩⟩, e⟩
  · by_cases q : a = l
    · exact .inr (by rw [q]; exact hn)
    · rw [upd_ne q] at h; exact k.tr.nw a v h
  · by_cases q : a = l
    · rw [q, upd_same] at h; rw [q]; cases h; exact h0
    · rw [upd_ne q] at h; exact k.fh a v h
  · rw [upd_ne (fun q => hm (by rw [← q]; exact List.mem_of_getElem? h1))]
    exact k.fr j a v h1 h2 h3
theorem wipe_get (σ : L2.St) (i : Nat) : ∀ vs : List Nat, (L2.wipe σ vs)[i]? = if i ∈ vs then (σ[i]?).map (fun _ => Option.none) else σ[i]?
  | [] => by simp [L2.wipe]
  | v :: vs => by
    unfold L2.wipe
    by_cases e : v = i
    · subst e
      rw [if_pos (List.mem_cons_self ..)]
      by_cases hl : v < σ.length
      · rw [List.getElem?_set_self (by rw [L2.wipe_length]; exact hl), List.getElem?_eq_getElem hl]; rfl
      · rw [List.getElem?_eq_none (by rw [List.length_set, L2.wipe_length]; omega), List.getElem?_eq_none (by omega)]; rfl
    · rw [List.getElem?_set_ne e, wipe_get σ i vs]
      by_cases h : i ∈ vs
      · rw [if_pos h, if_pos (List.mem_cons_of_mem _ h)]
      · rw [if_neg h, if_neg (fun z => by
          rcases List.mem_cons.mp z with z | z
          · exact e z.symm
          · exact h z)]
theorem wipe_set {σ : L2.St} {j : Nat} {x : Option V} {vs : List Nat} (h : j ∈ vs) : L2.wipe (σ.set j x) vs = L2.wipe σ vs := by
  apply List.ext_getElem?
  intro i
  rw [wipe_get, wipe_get]
  by_cases e : j = i
  · subst e
    rw [if_pos h, if_pos h]
    by_cases hl : j < σ.length
    · rw [List.getElem?_set_self hl, List.getElem?_eq_getElem hl]; rfl
    · rw [List.getElem?_eq_none (by rw [List.length_set]; omega), List.getElem?_eq_none (by omega)]
  · rw [List.getElem?_set_ne e]
theorem wipe_wipe {σ : L2.St} {vs : List Nat} : L2.wipe (L2.wipe σ vs) vs = L2.wipe σ vs := by
  apply List.ext_getElem?
  intro i
  rw [wipe_get, wipe_get]
  by_cases e : i ∈ vs
  · rw [if_pos e, if_pos e]
    cases σ[i]? <;> rfl
  · rw [if_neg e, if_neg e]
/-- a target of a comprehension: it stores at places of vs alone -/
def AGW (B : Base) (g : TG) (vs : List Nat) (x : Sl) (ρ : R) (o : O) (P : R → O → Prop) : Prop :=
  ∀ F H θ σ v, Ok B F H θ σ ρ o → RepS F θ v x → ∀ Q : L2.St → Hp → Prop, (∀ F' H' θ' σ' ρ' o', Tw F H θ F' H' θ' → Ok B F' H' θ' σ' ρ' o' → L2.wipe σ' vs = L2.wipe σ vs → P ρ' o' → Q σ' H') → g v σ H Q
def AGWs (B : Base) (g : TGs) (vs : List Nat) (xs : List Sl) (ρ : R) (o : O) (P : R → O → Prop) : Prop :=
  ∀ F H θ σ us, Ok B F H θ σ ρ o → RepSL F θ us xs → ∀ Q : L2.St → Hp → Prop, (∀ F' H' θ' σ' ρ' o', Tw F H θ F' H' θ' → Ok B F' H' θ' σ' ρ' o' → L2.wipe σ' vs = L2.wipe σ vs → P ρ' o' → Q σ' H') → g us σ H Q
theorem gw_name {i : Nat} {vs : List Nat} {x : Sl} {P : R → O → Prop} (hi : i ∈ vs) (h : P (ρ.set i (some x)) o) : AGW B (gName i) vs x ρ o P := fun F H θ σ v k r Q q =>
  q F H θ (σ.set i (some v)) _ o (Tw.refl F H θ) (k.slots (k.sl.set r)) (wipe_set hi) h
theorem gw_nil {vs : List Nat} {P : R → O → Prop} (h : P ρ o) : AGWs B gNil vs [] ρ o P := fun F H θ σ v k r Q q => by
  cases r
  exact ⟨rfl, q F H θ σ ρ o (Tw.refl F H θ) k rfl h⟩
theorem gw_cons {gs : TGs} {vs : List Nat} {x : Sl} {xs : List Sl} {P : R → O → Prop} (h : AGW B g vs x ρ o fun ρ1 o1 => AGWs B gs vs xs ρ1 o1 P) : AGWs B (gCons g gs) vs (x :: xs) ρ o P := fun F H θ σ us k r Q q => by
  cases r with
  | @cons v _ vs' _ r rs =>
    exact ⟨v, vs', rfl, h F H θ σ v k r _ fun F1 H1 θ1 σ1 ρ1 o1 t1 k1 e1 p1 => p1 F1 H1 θ1 σ1 vs' k1 (RepSL.mono t1.ff t1.pre rs) Q fun F' H' θ' σ' ρ' o' t2 k2 e2 p2 => q F' H' θ' σ' ρ' o' (t1.trans t2) k2 (e2.trans e1) p2⟩
theorem gw_unT {n : Nat} {gs : TGs} {vs : List Nat} {ds : List D} {P : R → O → Prop} (hn : ds.length = n) (h : AGWs B gs vs (ds.map Sl.da) ρ o P) : AGW B (gUn K n gs) vs (.da (.tup ds)) ρ o P := fun F H θ σ v k r Q q => by
  cases r with
  | @tup a xs _ e rl => exact .inl ⟨a, xs, rfl, SqT.of (k.fh a _ e), by rw [rl.len, hn], h F H θ σ xs k (all_da rl) Q q⟩
theorem gw_unL {n : Nat} {gs : TGs} {vs : List Nat} {ds : List D} {P : R → O → Prop} (hn : ds.length = n) (h : AGWs B gs vs (ds.map Sl.da) ρ o P) : AGW B (gUn K n gs) vs (.da (.lst ds)) ρ o P := fun F H θ σ v k r Q q => by
  cases r with
  | @lst a xs _ e rl => exact .inr ⟨a, xs, rfl, SqL.of (k.fh a _ e), by rw [rl.len, hn], h F H θ σ xs k (all_da rl) Q q⟩
theorem g_unT {n : Nat} {gs : TGs} {ds : List D} {P : R → O → Prop} (hn : ds.length = n) (h : AGs B gs (ds.map Sl.da) ρ o P) : AG B (gUn K n gs) (.da (.tup ds)) ρ o P := fun F H θ σ v k r Q q => by
  cases r with
  | @tup a xs _ e rl => exact .inl ⟨a, xs, rfl, SqT.of (k.fh a _ e), by rw [rl.len, hn], h F H θ σ xs k (all_da rl) Q q⟩
theorem g_unL {n : Nat} {gs : TGs} {x : Sl} {ss : List Sl} {P : R → O → Prop} (hx : LL o x ss) (hn : ss.length = n) (h : AGs B gs ss ρ o P) : AG B (gUn K n gs) x ρ o P := fun F H θ σ v k r Q q => by
  obtain ⟨a, xs, rfl, ha, rl⟩ := hx.at k r
  exact .inr ⟨a, xs, rfl, SqL.of ha, by rw [Paired.len rl, hn], h F H θ σ xs k rl Q q⟩
section
variable {tt : TT} {te : TE} {vs : List Nat}
/-- the state amid a comprehension -/
def LcI (B : Base) (F1 H1 : Hp) (θ1 : List Addr) (σ : L2.St) (ρ : R) (l : Addr) (Pv : Nat → List D → O → Prop) (i : Nat) (H' : Hp) : Prop :=
  ∃ F' θ' acc o', Tw F1 H1 θ1 F' H' θ' ∧ Ok B F' H' θ' σ ρ o' ∧ Pv i acc o' ∧ Made F' H' θ' l acc
theorem Tw.writ {F H F' H' : Hp} {θ θ' : List Addr} {l : Addr} {u : HO} (t : Tw F H θ F' H' θ') (hn : H l = none) : Tw F H θ F' (upd H' l u) θ' :=
  ⟨t.ff, t.pre, fun a o h n => by
    rw [upd_ne (fun e => by rw [e, hn] at h; cases h)]
    exact t.kp a o h n, fun a h => by
    by_cases e : a = l
    · rw [e]; exact hn
    · rw [upd_ne e] at h; exact t.th a h, t.nt, t.nf⟩
theorem Tw.stay {F H F' H' : Hp} {θ θ' : List Addr} {l : Addr} {u : HO} (t : Tw F H θ F' H' θ') (hn : H l = none) (hf : F' l = none) : Tw F H θ (upd F' l u) H' θ' :=
  ⟨t.ff.trans (Ex.new hf), t.pre, t.kp, t.th, t.nt, fun a o h h1 h2 => by
    rw [upd_ne (fun e => by rw [e, hn] at h2; cases h2)]
    exact t.nf a o h h1 h2⟩
theorem lc_turn {Pv : Nat → List D → O → Prop} {F1 H1 : Hp} {θ1 : List Addr} {σ : L2.St} {l : Addr} {i : Nat} {x : V} {H' : Hp} {d : D} (hn1 : H1 l = none) (hnB : B.H l = none) (few : ∀ i acc o', Pv i acc o' → acc.length ≤ 1000000)
    (turn : ∀ acc o', Pv i acc o' → AGW B g vs (.da d) (wipeR ρ vs) o' fun ρ2 o2 => AT B tt ρ2 o2 fun b o3 => if b = true then AE B te ρ2 o3 fun y o4 => ∃ e, y = .da e ∧ Pv (i + 1) (acc ++ [e]) o4 else Pv (i + 1) acc o3)
    (h : LcI B F1 H1 θ1 σ ρ l Pv i H') (hx : ∀ F' θ', Tw F1 H1 θ1 F' H' θ' → Rep F' x d) :
    g x (L2.wipe σ vs) H' fun σ2 H2 => L2.wipe σ2 vs = L2.wipe σ vs ∧ tt σ2 H2 fun b H3 => if b = true then te σ2 H3 fun y H4 => ∃ acc, H4 l = some (.lst acc) ∧ acc.length < sizeLine ∧ LcI B F1 H1 θ1 σ ρ l Pv (i + 1) (upd H4 l (.lst (acc ++ [y]))) else LcI B F1 H1 θ1 σ ρ l Pv (i + 1) H3 := by
  obtain ⟨F', θ', acc, o', t, k, p, m⟩ := h
  refine turn acc o' p F' H' θ' (L2.wipe σ vs) x (k.slots (k.sl.wipe vs)) (RepS.dat (hx F' θ' t)) _ fun F2 H2 θ2 σ2 ρ2 o2 t2 k2 e2 p2 => ?_
  refine ⟨e2.trans wipe_wipe, p2 F2 H2 θ2 σ2 k2 _ fun b F3 H3 θ3 o3 t3 k3 p3 => ?_⟩
  have t13 := (t.trans t2).trans t3
  cases b with
  | true =>
    refine p3 F3 H3 θ3 σ2 k3 _ fun y s F4 H4 θ4 o4 t4 k4 r4 p4 => ?_
    obtain ⟨e, rfl, p4⟩ := p4
    have m4 := ((m.on t2).on t3).on t4
    obtain ⟨us, h1, h2⟩ := m4.at_
    have t14 := t13.trans t4
    refine ⟨us, h1, ?_, F4, θ4, acc ++ [e], o4, t14.writ hn1, ?_, p4, ⟨⟨us ++ [y], upd_same, h2.app (.cons r4 .nil)⟩, m4.fr, m4.nm⟩⟩
    · rw [h2.len]
      have := few _ _ _ p
      rw [sizeLine_eq]
      omega
    · exact (k4.slots (k.sl.mono ((t2.trans t3).trans t4).ff ((t2.trans t3).trans t4).pre)).writ hnB h1 m4.fr m4.nm
  | false => exact ⟨F3, θ3, acc, o3, t13, k3.slots (k.sl.mono (t2.trans t3).ff (t2.trans t3).pre), p3, (m.on t2).on t3⟩
theorem lc_end {Pv : List D → O → Prop} {F H F1 H1 : Hp} {θ θ1 : List Addr} {σ : L2.St} {l : Addr} {H' : Hp} {Q : VK} (t1 : Tw F H θ F1 H1 θ1) (hn1 : H1 l = none) (hnB : B.H l = none)
    (q : ∀ v s F' H' θ' o', Tw F H θ F' H' θ' → Ok B F' H' θ' σ ρ o' → RepS F' θ' v s → P s o' → Q v H') (hd : ∀ acc o', Pv acc o' → P (.da (.lst acc)) o')
    (h : LcI B F1 H1 θ1 σ ρ l (fun _ => Pv) 0 H') : Q (.ref l) H' := by
  obtain ⟨F', θ', acc, o', t, k, p, m⟩ := h
  obtain ⟨us, h1, h2⟩ := m.at_
  obtain ⟨k', e⟩ := k.stay hnB h1 m.fr m.nm
  exact q _ _ _ _ _ _ (t1.trans (t.stay hn1 m.fr)) k' (RepS.dat (Rep.lst upd_same (h2.mono e))) (hd acc o' p)
/-- over a list of data -/
theorem e_lc {tl : TE} (h : AE B tl ρ o fun x o1 => ∃ ds, x = .da (.lst ds) ∧ ∃ Pv : Nat → List D → O → Prop, Pv 0 [] o1 ∧ (∀ i acc o', Pv i acc o' → acc.length ≤ 1000000) ∧
    (∀ (i : Nat) d acc o', ds[i]? = some d → Pv i acc o' → AGW B g vs (.da d) (wipeR ρ vs) o' fun ρ2 o2 => AT B tt ρ2 o2 fun b o3 => if b = true then AE B te ρ2 o3 fun y o4 => ∃ e, y = .da e ∧ Pv (i + 1) (acc ++ [e]) o4 else Pv (i + 1) acc o3) ∧
    ∀ acc o', Pv ds.length acc o' → P (.da (.lst acc)) o') : AE B (tLc (iSq K tl) g tt te vs) ρ o P := by
  intro F H θ σ k Q q
  refine h F H θ σ k _ fun v x F1 H1 θ1 o1 t1 k1 r1 p1 => ?_
  obtain ⟨ds, rfl, Pv, h0, few, turn, hd⟩ := p1
  cases r1 with
  | @lst a xs _ ea rl =>
  refine .inl ⟨a, rfl, ⟨xs, SqL.of (k1.fh a _ ea)⟩, fun l hn => ?_⟩
  have hnB : B.H l = none := k1.tr.th l hn
  have hfl : F1 l = none := by
    cases z : F1 l with
    | none => rfl
    | some w => have := k1.fh l w z; rw [hn] at this; cases this
  have nm : l ∉ θ1 := fun z => by obtain ⟨w, hw⟩ := k1.mem z; rw [hn] at hw; cases hw
  have k1' : Ok B F1 (upd H1 l (.lst [])) θ1 σ ρ o1 := by
    refine ⟨(k1.tr.trans ?_), (fun b u z => Ex.new hn b u (k1.fh b u z)), k1.len, k1.nd, k1.fr, fun j b u z1 z2 => (k1.ob j b u z1 z2).at fun w' h => Ex.new hn b w' h, k1.sl⟩
    exact ⟨Ex.refl _, ⟨[], by simp⟩, fun b u z _ => Ex.new hn b u z, fun b z => by
      by_cases e : b = l
      · rw [e]; exact hn
      · rwa [upd_ne e] at z, fun b u z => .inl ⟨u, z⟩, fun b z => .inl z⟩
  refine lc_list (xs := xs) (fun i H' => LcI B F1 H1 θ1 σ ρ l Pv i H') ⟨F1, θ1, [], o1, (Tw.refl F1 H1 θ1).writ hn, k1', h0, ⟨⟨[], upd_same, .nil⟩, hfl, nm⟩⟩ (fun i H' _ w => ?_) (fun i x H' hx w => ?_) (fun H' w => ?_)
  · obtain ⟨F', θ', acc, o', t, k', _⟩ := w
    exact SqL.of (k'.fh a _ (t.ff a _ ea))
  · obtain ⟨d, hd1, hd2⟩ := rl.get hx
    have z := lc_turn (tt := tt) (te := te) (x := x) hn hnB few (turn i d · · hd1) w (fun F' θ' t => hd2.mono t.ff)
    exact z
  · rw [rl.len] at w
    obtain ⟨F', θ', acc, o', t, k', p, m⟩ := w
    exact lc_end (Pv := Pv ds.length) t1 hn hnB q hd ⟨F', θ', acc, o', t, k', p, m⟩
theorem lc_start {F1 H1 : Hp} {θ1 : List Addr} {σ : L2.St} {o1 : O} {l : Addr} {Pv : Nat → List D → O → Prop} (k1 : Ok B F1 H1 θ1 σ ρ o1) (hn : H1 l = none) (h0 : Pv 0 [] o1) : LcI B F1 H1 θ1 σ ρ l Pv 0 (upd H1 l (.lst [])) := by
  have hfl : F1 l = none := by
    cases z : F1 l with
    | none => rfl
    | some w => have := k1.fh l w z; rw [hn] at this; cases this
  have nm : l ∉ θ1 := fun z => by obtain ⟨w, hw⟩ := k1.mem z; rw [hn] at hw; cases hw
  have k1' : Ok B F1 (upd H1 l (.lst [])) θ1 σ ρ o1 := by
    refine ⟨(k1.tr.trans ?_), (fun b u z => Ex.new hn b u (k1.fh b u z)), k1.len, k1.nd, k1.fr, fun j b u z1 z2 => (k1.ob j b u z1 z2).at fun w' h => Ex.new hn b w' h, k1.sl⟩
    exact ⟨Ex.refl _, ⟨[], by simp⟩, fun b u z _ => Ex.new hn b u z, fun b z => by
      by_cases e : b = l
      · rw [e]; exact hn
      · rwa [upd_ne e] at z, fun b u z => .inl ⟨u, z⟩, fun b z => .inl z⟩
  exact ⟨F1, θ1, [], o1, (Tw.refl F1 H1 θ1).writ hn, k1', h0, ⟨⟨[], upd_same, .nil⟩, hfl, nm⟩⟩
theorem e_lcR1 {t : TA} (h : AA B t ρ o fun xs o1 => ∃ j : Int, xs = [.da (.int j)] ∧ -(2 ^ 62) ≤ j ∧ j < 2 ^ 62 ∧ ∃ Pv : Nat → List D → O → Prop, Pv 0 [] o1 ∧ (∀ i acc o', Pv i acc o' → acc.length ≤ 1000000) ∧
    (∀ (i : Nat) acc o', i < j.toNat → Pv i acc o' → AGW B g vs (.da (.int (i : Int))) (wipeR ρ vs) o' fun ρ2 o2 => AT B tt ρ2 o2 fun b o3 => if b = true then AE B te ρ2 o3 fun y o4 => ∃ e, y = .da e ∧ Pv (i + 1) (acc ++ [e]) o4 else Pv (i + 1) acc o3) ∧
    ∀ acc o', Pv j.toNat acc o' → P (.da (.lst acc)) o') : AE B (tLc (iRng1 t) g tt te vs) ρ o P := by
  intro F H θ σ k Q q
  refine h F H θ σ k _ fun us xs F1 H1 θ1 o1 t1 k1 r1 p1 => ?_
  obtain ⟨j, rfl, hb1, hb2, Pv, h0, few, turn, hd⟩ := p1
  cases r1 with
  | cons r rs =>
  cases rs
  have e := rep_int r
  subst e
  refine ⟨j, rfl, hb1, hb2, fun l hn => ?_⟩
  have hnB : B.H l = none := k1.tr.th l hn
  refine lc_range (lo := 0) (n := j.toNat) (fun i H' => LcI B F1 H1 θ1 σ ρ l Pv i H') (lc_start k1 hn h0) (fun i H' hi w => ?_) (fun H' w => ?_)
  · exact lc_turn (d := .int (i : Int)) (tt := tt) (te := te) hn hnB few (turn i · · hi) w (fun F' θ' t => by rw [Int.zero_add]; exact Rep.int _)
  · obtain ⟨F', θ', acc, o', t, k', p, m⟩ := w
    exact lc_end (Pv := Pv j.toNat) t1 hn hnB q hd ⟨F', θ', acc, o', t, k', p, m⟩
theorem e_lcR2 {t : TA} (h : AA B t ρ o fun xs o1 => ∃ a j : Int, xs = [.da (.int a), .da (.int j)] ∧ (-(2 ^ 62) ≤ a ∧ a < 2 ^ 62 ∧ -(2 ^ 62) ≤ j ∧ j < 2 ^ 62) ∧ ∃ Pv : Nat → List D → O → Prop, Pv 0 [] o1 ∧ (∀ i acc o', Pv i acc o' → acc.length ≤ 1000000) ∧
    (∀ (i : Nat) acc o', i < (j - a).toNat → Pv i acc o' → AGW B g vs (.da (.int (a + i))) (wipeR ρ vs) o' fun ρ2 o2 => AT B tt ρ2 o2 fun b o3 => if b = true then AE B te ρ2 o3 fun y o4 => ∃ e, y = .da e ∧ Pv (i + 1) (acc ++ [e]) o4 else Pv (i + 1) acc o3) ∧
    ∀ acc o', Pv (j - a).toNat acc o' → P (.da (.lst acc)) o') : AE B (tLc (iRng2 t) g tt te vs) ρ o P := by
  intro F H θ σ k Q q
  refine h F H θ σ k _ fun us xs F1 H1 θ1 o1 t1 k1 r1 p1 => ?_
  obtain ⟨a, j, rfl, hb, Pv, h0, few, turn, hd⟩ := p1
  cases r1 with
  | cons r rs =>
  cases rs with
  | cons r' rs =>
  cases rs
  have e := rep_int r
  have e' := rep_int r'
  subst e e'
  refine ⟨a, j, rfl, hb, fun l hn => ?_⟩
  have hnB : B.H l = none := k1.tr.th l hn
  refine lc_range (lo := a) (n := (j - a).toNat) (fun i H' => LcI B F1 H1 θ1 σ ρ l Pv i H') (lc_start k1 hn h0) (fun i H' hi w => ?_) (fun H' w => ?_)
  · exact lc_turn (d := .int (a + i)) (tt := tt) (te := te) hn hnB few (turn i · · hi) w (fun F' θ' t => Rep.int _)
  · obtain ⟨F', θ', acc, o', t, k', p, m⟩ := w
    exact lc_end (Pv := Pv (j - a).toNat) t1 hn hnB q hd ⟨F', θ', acc, o', t, k', p, m⟩
theorem t_yes {P : Bool → O → Prop} (h : P true o) : AT B tYes ρ o P := fun F H θ σ k Q q => q true F H θ o (Tw.refl F H θ) k h
end
end
end AB

set_option Elab.async false
set_option linter.all false
set_option maxRecDepth 100000
set_option maxHeartbeats 4000000
set_option autoImplicit false
namespace AB
open PySem L2 PySem.Spec PyProof.Rows
/-! ### contracts -/
abbrev Con := List Sl → O → (Sl → O → Prop) → (Addr → List (Str × D) → O → Prop) → Prop
def SpC (C : Con) : Sp := fun vs H Q E => ∃ F θ ss o0 Rt Xt, Ok ⟨F, H, θ⟩ F H θ (vs.map some) (ss.map some) o0 ∧ C ss o0 Rt Xt ∧
  (∀ v s F' H' θ' o', Ok ⟨F, H, θ⟩ F' H' θ' [] [] o' → RepS F' θ' v s → Rt s o' → Q v H') ∧
  (∀ C' dd fs ks F' H' θ' o', Ok ⟨F, H, θ⟩ F' H' θ' [] [] o' → F' dd = some (.xd ks) → RepF F' ks fs → Xt C' fs o' → E (.ref C') (some dd) H')
theorem con_len {C : Con} {n : Nat} (h : ∀ ss o Rt Xt, C ss o Rt Xt → ss.length = n) : ∀ vs H Q E, SpC C vs H Q E → vs.length = n := by
  intro vs H Q E ⟨F, θ, ss, o0, Rt, Xt, k, c, _⟩
  have := k.sl.len
  rw [List.length_map, List.length_map] at this
  rw [this]
  exact h ss o0 Rt Xt c
theorem Ok.bare {B : Base} {F H : Hp} {θ : List Addr} {σ : L2.St} {ρ : R} {o : O} (k : Ok B F H θ σ ρ o) : Ok B F H θ [] [] o := k.slots ⟨rfl, fun i s h => by simp at h⟩
/-- a def's body: from its contract -/
theorem con_run {C : Con} {t : TS} {N : List Str} {vs : List V} {H : Hp} {Q : VK} {E : XK} (h : SpC C vs H Q E)
    (hb : ∀ B ss o Rt Xt, B.θ.length = o.length → C ss o Rt Xt → (∀ ρ o C' fs, Xt C' fs o → AX B (fun cls d _ H => E cls d H) ρ o C' fs) →
      WS B t { nx := fun _ o => Rt (.da .non) o, rt := Rt } (ss.map some ++ List.replicate (N.length - ss.length) none) o) :
    t { nx := fun _ H' => Q .non H', rt := Q } (L2.start N vs) H := by
  obtain ⟨F, θ, ss, o0, Rt, Xt, k, c, hq, hx⟩ := h
  have hl : vs.length = ss.length := by
    have := k.sl.len
    rwa [List.length_map, List.length_map] at this
  have hX : ∀ ρ o C' fs, Xt C' fs o → AX ⟨F, H, θ⟩ (fun cls d _ H => E cls d H) ρ o C' fs := fun ρ o C' fs x F' H' θ' σ dd ks k' e r => hx C' dd fs ks F' H' θ' o k'.bare e r x
  have w := hb ⟨F, H, θ⟩ ss o0 Rt Xt k.len c hX
  refine w F H θ (L2.start N vs) (k.slots ⟨?_, fun i s e => ?_⟩) _ ⟨?_, ?_, ?_, ?_⟩
  · unfold L2.start
    simp [hl]
  · unfold L2.start
    by_cases hi : i < ss.length
    · rw [List.getElem?_append_left (by rw [List.length_map]; exact hi)] at e
      rw [List.getElem?_append_left (by rw [List.length_map, hl]; exact hi)]
      exact k.sl.at_ i s e
    · rw [List.getElem?_append_right (by rw [List.length_map]; omega), List.getElem?_replicate] at e
      split at e <;> cases e
  · exact fun F' H' θ' σ ρ o t k' p => hq _ _ F' H' θ' o k'.bare (RepS.dat Rep.non) p
  · exact fun F' H' θ' σ ρ o v s t k' r p => hq v s F' H' θ' o k'.bare r p
  · exact fun F' H' θ' σ ρ o t k' p => p
  · exact fun F' H' θ' σ ρ o t k' p => p
/-! numbers of own objects, seen from the caller -/
def Sl.mv (f : Nat → Nat) : Sl → Sl
  | .da d => .da d
  | .ow j => .ow (f j)
def OO.mv (f : Nat → Nat) : OO → OO
  | .gone => .gone
  | .lst l => .lst (l.map (Sl.mv f))
  | .dic l => .dic (l.map fun p => (p.1, p.2.mv f))
  | .ins C l => .ins C (l.map fun p => (p.1, p.2.mv f))
  | .nd P w ks => .nd P w ks
def mvI (js : List Nat) (n i : Nat) : Nat := (js[i]?).getD (n + (i - js.length))
def setJ : O → List Nat → List OO → O
  | o, j :: js, u :: us => setJ (o.set j u) js us
  | o, _, _ => o
theorem setJ_len : ∀ (js : List Nat) (us : List OO) (o : O), (setJ o js us).length = o.length
  | [], _, o => by unfold setJ; rfl
  | j :: js, [], o => by unfold setJ; rfl
  | j :: js, u :: us, o => by
    unfold setJ
    rw [setJ_len js us, List.length_set]
theorem setJ_ne : ∀ (js : List Nat) (us : List OO) (o : O) (i : Nat), i ∉ js → (setJ o js us)[i]? = o[i]?
  | [], _, o, i, _ => by unfold setJ; rfl
  | j :: js, [], o, i, _ => by unfold setJ; rfl
  | j :: js, u :: us, o, i, h => by
    unfold setJ
    rw [setJ_ne js us _ i (fun z => h (List.mem_cons_of_mem _ z)), List.getElem?_set_ne (fun e => h (by rw [e]; exact List.mem_cons_self ..))]
theorem setJ_at : ∀ (js : List Nat) (us : List OO) (o : O) (k j : Nat), js.Nodup → us.length = js.length → js[k]? = some j → j < o.length → (setJ o js us)[j]? = us[k]?
  | [], _, o, k, j, _, _, h, _ => by simp at h
  | j0 :: js, [], o, k, j, _, hl, _, _ => by simp at hl
  | j0 :: js, u :: us, o, 0, j, nd, hl, h, hj => by
    have e : j0 = j := by simpa using h
    subst e
    unfold setJ
    rw [setJ_ne js us _ j0 (List.nodup_cons.mp nd).1, List.getElem?_set_self hj]
    rfl
  | j0 :: js, u :: us, o, k + 1, j, nd, hl, h, hj => by
    unfold setJ
    have := setJ_at js us (o.set j0 u) k j (List.nodup_cons.mp nd).2 (by simpa using hl) (by simpa using h) (by simpa using hj)
    simpa using this
/-- what a call leaves of the caller's objects -/
def back (o1 : O) (js : List Nat) (o' : O) : O := setJ o1 js ((o'.take js.length).map (OO.mv (mvI js o1.length))) ++ (o'.drop js.length).map (OO.mv (mvI js o1.length))
section
variable {B : Base} {ρ : R} {o : O} {P : Sl → O → Prop} {K : PySem.W.Frag} {D0 : AD}
theorem Sl.mv_rep {F : Hp} {θ θ0 t : List Addr} {js : List Nat} {v : V} {s : Sl} (hl : θ0.length = js.length) (hj : ∀ i j : Nat, js[i]? = some j → θ0[i]? = θ[j]? ∧ j < θ.length) (h : RepS F (θ0 ++ t) v s) : RepS F (θ ++ t) v (s.mv (mvI js θ.length)) := by
  cases s with
  | da d => exact h
  | ow i =>
    obtain ⟨a, rfl, ha⟩ := h
    refine ⟨a, rfl, ?_⟩
    show (θ ++ t)[mvI js θ.length i]? = some a
    unfold mvI
    by_cases hi : i < js.length
    · rw [List.getElem?_append_left (by rw [hl]; exact hi)] at ha
      rw [List.getElem?_eq_getElem hi]
      obtain ⟨h1, h2⟩ := hj i _ (List.getElem?_eq_getElem hi)
      show (θ ++ t)[js[i]]? = some a
      rw [List.getElem?_append_left h2, ← h1]
      exact ha
    · rw [List.getElem?_append_right (by omega), hl] at ha
      have e0 : js[i]? = none := List.getElem?_eq_none (by omega)
      rw [e0]
      show (θ ++ t)[θ.length + (i - js.length)]? = some a
      rw [List.getElem?_append_right (by omega)]
      have e : θ.length + (i - js.length) - θ.length = i - js.length := by omega
      rw [e]
      exact ha
theorem Sl.mv_per {F : Hp} {θ θ0 : List Addr} {js : List Nat} {v : V} {s : Sl} (hl : θ0.length = js.length) (hj : ∀ i j : Nat, js[i]? = some j → θ0[i]? = θ[j]? ∧ j < θ.length) (h : RepS F θ v (s.mv (mvI js θ.length))) : RepS F θ0 v s := by
  cases s with
  | da d => exact h
  | ow i =>
    obtain ⟨a, rfl, ha⟩ := h
    refine ⟨a, rfl, ?_⟩
    have ha' : θ[mvI js θ.length i]? = some a := ha
    unfold mvI at ha'
    by_cases hi : i < js.length
    · rw [List.getElem?_eq_getElem hi] at ha'
      obtain ⟨h1, h2⟩ := hj i _ (List.getElem?_eq_getElem hi)
      rw [h1]
      exact ha'
    · have e0 : js[i]? = none := List.getElem?_eq_none (by omega)
      rw [e0] at ha'
      have ha2 : θ[θ.length + (i - js.length)]? = some a := ha'
      have e1 : θ[θ.length + (i - js.length)]? = none := List.getElem?_eq_none (by omega)
      rw [e1] at ha2
      cases ha2
theorem Paired.mapR {α β γ : Type} {P : α → β → Prop} {Q : α → γ → Prop} {f : β → γ} (h : ∀ a b, P a b → Q a (f b)) : ∀ {xs : List α} {ys : List β}, Paired P xs ys → Paired Q xs (ys.map f)
  | _, _, .nil => .nil
  | _, _, .cons r t => .cons (h _ _ r) (Paired.mapR h t)
theorem Paired.mapL {α β γ : Type} {P : α → β → Prop} {Q : α → γ → Prop} {f : γ → β} (h : ∀ a c, P a (f c) → Q a c) : ∀ {xs : List α} {ys : List γ}, Paired P xs (ys.map f) → Paired Q xs ys
  | [], [], _ => .nil
  | _ :: _, _ :: _, .cons r t => .cons (h _ _ r) (Paired.mapL h t)
theorem OO.mv_rep {F H : Hp} {θ θ0 t : List Addr} {js : List Nat} {a : Addr} {u : OO} (hl : θ0.length = js.length) (hj : ∀ i j : Nat, js[i]? = some j → θ0[i]? = θ[j]? ∧ j < θ.length) (h : RepO F H (θ0 ++ t) a u) : RepO F H (θ ++ t) a (u.mv (mvI js θ.length)) := by
  cases u with
  | gone => exact h
  | lst l => obtain ⟨xs, h1, h2⟩ := h; exact ⟨xs, h1, Paired.mapR (fun _ _ r => Sl.mv_rep hl hj r) h2⟩
  | dic l => obtain ⟨xs, h1, h2⟩ := h; exact ⟨xs, h1, Paired.mapR (f := fun p : Key × Sl => (p.1, p.2.mv (mvI js θ.length))) (fun _ _ r => ⟨r.1, Sl.mv_rep hl hj r.2⟩) h2⟩
  | ins C l => obtain ⟨dx, xs, h1, h2⟩ := h; exact ⟨dx, xs, h1, Paired.mapR (f := fun p : Str × Sl => (p.1, p.2.mv (mvI js θ.length))) (fun _ _ r => ⟨r.1, Sl.mv_rep hl hj r.2⟩) h2⟩
  | nd P w ks => exact h
theorem mapSl {F : Hp} {θ θ0 : List Addr} {f : Nat → Nat} (h : ∀ v s, RepS F θ v (Sl.mv f s) → RepS F θ0 v s) : ∀ {xs : List V} {ys : List Sl}, RepSL F θ xs (ys.map (Sl.mv f)) → RepSL F θ0 xs ys
  | [], [], _ => .nil
  | _ :: _, _ :: _, .cons r t => .cons (h _ _ r) (mapSl h t)
theorem OO.mv_per {F H : Hp} {θ θ0 : List Addr} {js : List Nat} {a : Addr} {u : OO} (hl : θ0.length = js.length) (hj : ∀ i j : Nat, js[i]? = some j → θ0[i]? = θ[j]? ∧ j < θ.length) (h : RepO F H θ a (u.mv (mvI js θ.length))) : RepO F H θ0 a u := by
  cases u with
  | gone => exact h
  | lst l => obtain ⟨xs, h1, h2⟩ := h; exact ⟨xs, h1, mapSl (fun _ _ r => Sl.mv_per hl hj r) h2⟩
  | dic l => obtain ⟨xs, h1, h2⟩ := h; exact ⟨xs, h1, Paired.mapL (f := fun p : Key × Sl => (p.1, p.2.mv (mvI js θ.length))) (fun _ _ r => ⟨r.1, Sl.mv_per hl hj r.2⟩) h2⟩
  | ins C l => obtain ⟨dx, xs, h1, h2⟩ := h; exact ⟨dx, xs, h1, Paired.mapL (f := fun p : Str × Sl => (p.1, p.2.mv (mvI js θ.length))) (fun _ _ r => ⟨r.1, Sl.mv_per hl hj r.2⟩) h2⟩
  | nd P w ks => exact h
theorem OO.mv_gone {f : Nat → Nat} {u : OO} (h : u.mv f ≠ .gone) : u ≠ .gone := fun e => by subst e; exact h rfl
/-- how the callee sees what is handed to it -/
structure Hand (o1 : O) (js : List Nat) (ss : List Sl) (ss0 : List Sl) (o0 : O) : Prop where
  nd : js.Nodup
  len : o0.length = js.length
  ss : ss = ss0.map (Sl.mv (mvI js o1.length))
  ob : ∀ (i j : Nat), js[i]? = some j → ∃ u0, o0[i]? = some u0 ∧ o1[j]? = some (u0.mv (mvI js o1.length)) ∧ u0 ≠ .gone
theorem mv_ng {f : Nat → Nat} {u : OO} (h : u ≠ .gone) : u.mv f ≠ .gone := by
  cases u with
  | gone => exact absurd rfl h
  | lst l => intro z; cases z
  | dic l => intro z; cases z
  | ins C l => intro z; cases z
  | nd P w ks => intro z; cases z
/-- the state behind a call -/
theorem call_back {F H : Hp} {θ θ0 : List Addr} {σ : L2.St} {js : List Nat} {ss ss0 : List Sl} {o0 o' : O} {F' H' : Hp} {θ' : List Addr} (k : Ok B F H θ σ ρ o) (hd : Hand o js ss ss0 o0) (hl : θ0.length = js.length) (hj : ∀ i j : Nat, js[i]? = some j → θ0[i]? = θ[j]? ∧ j < θ.length)
    (k' : Ok ⟨F, H, θ0⟩ F' H' θ' [] [] o') : ∃ t, θ' = θ0 ++ t ∧ Tw F H θ F' H' (θ ++ t) ∧ Ok B F' H' (θ ++ t) σ ρ (back o js o') := by
  obtain ⟨t, rfl⟩ := k'.tr.pre
  have hl0 : θ0.length = js.length := hl
  have in0 : ∀ a, a ∈ θ0 → a ∈ θ := fun a h => by
    obtain ⟨i, hi, e⟩ := List.getElem_of_mem h
    have hi2 : i < js.length := by rw [← hl]; exact hi
    obtain ⟨h1, h2⟩ := hj i _ (List.getElem?_eq_getElem hi2)
    rw [List.getElem?_eq_getElem hi, e] at h1
    exact List.mem_of_getElem? h1.symm
  have nd' := k'.nd
  have ndt : t.Nodup := (List.nodup_append.mp nd').2.1
  have dj : ∀ a, a ∈ θ → a ∉ t := fun a ha ht => by
    obtain ⟨w, hw⟩ := k.mem ha
    rcases k'.tr.nt a (List.mem_append_right _ ht) with q | q
    · exact (List.nodup_append.mp nd').2.2 a q a ht rfl
    · have q' : H a = none := q
      rw [hw] at q'; cases q'
  have tr : Tr F H θ F' H' (θ ++ t) := {
    ff := k'.tr.ff
    pre := ⟨t, rfl⟩
    kp := fun a w h n => k'.tr.kp a w h (fun z => n (in0 a z))
    th := fun a h => k'.tr.th a h
    nw := fun a w h => k'.tr.nw a w h
    nt := fun a h => by
      rcases List.mem_append.mp h with h | h
      · exact .inl h
      · rcases k'.tr.nt a (List.mem_append_right _ h) with q | q
        · exact .inl (in0 a q)
        · exact .inr q }
  have lo' : o'.length = js.length + t.length := by
    have := k'.len
    rw [List.length_append, hl] at this
    exact this.symm
  have ltake : ((o'.take js.length).map (OO.mv (mvI js o.length))).length = js.length := by
    rw [List.length_map, List.length_take]
    omega
  have cut : ∀ (j : Nat) a u, (θ ++ t)[j]? = some a → (back o js o')[j]? = some u →
      (j ∉ js ∧ θ[j]? = some a ∧ o[j]? = some u) ∨ ∃ (i : Nat) (u' : OO), (θ0 ++ t)[i]? = some a ∧ o'[i]? = some u' ∧ u = u'.mv (mvI js θ.length) := fun j a u h1 h2 => by
    unfold back at h2
    by_cases hjl : j < θ.length
    · rw [List.getElem?_append_left hjl] at h1
      rw [List.getElem?_append_left (by rw [setJ_len, ← k.len]; exact hjl)] at h2
      by_cases hm : j ∈ js
      · obtain ⟨i, hi, e⟩ := List.getElem_of_mem hm
        have hji : js[i]? = some j := by rw [List.getElem?_eq_getElem hi, e]
        rw [setJ_at js _ o i j hd.nd ltake hji (by rw [← k.len]; exact hjl)] at h2
        rw [List.getElem?_map, List.getElem?_take_of_lt hi] at h2
        cases e' : o'[i]? with
        | none => rw [e'] at h2; cases h2
        | some u' =>
          rw [e'] at h2
          refine .inr ⟨i, u', ?_, e', ?_⟩
          · rw [List.getElem?_append_left (by rw [hl]; exact hi), (hj i j hji).1]
            exact h1
          · rw [k.len]
            exact (Option.some.inj h2).symm
      · rw [setJ_ne js _ o j hm] at h2
        exact .inl ⟨hm, h1, h2⟩
    · rw [List.getElem?_append_right (by omega)] at h1
      rw [List.getElem?_append_right (by rw [setJ_len, ← k.len]; omega), setJ_len, ← k.len, List.getElem?_map, List.getElem?_drop] at h2
      cases e' : o'[js.length + (j - θ.length)]? with
      | none => rw [e'] at h2; cases h2
      | some u' =>
        rw [e'] at h2
        refine .inr ⟨js.length + (j - θ.length), u', ?_, e', (Option.some.inj h2).symm⟩
        rw [List.getElem?_append_right (by omega), hl]
        have e2 : js.length + (j - θ.length) - js.length = j - θ.length := by omega
        rw [e2]
        exact h1
  refine ⟨t, rfl, tr.w, k.tr.trans tr, k'.fh, ?_, ?_, fun j a u h1 h2 h3 => ?_, fun j a u h1 h2 => ?_, k.sl.mono tr.ff tr.pre⟩
  · unfold back
    rw [List.length_append, List.length_append, setJ_len, List.length_map, List.length_drop, k.len]
    omega
  · rw [List.nodup_append]
    exact ⟨k.nd, ndt, fun a ha b hb e => dj a ha (by rw [e]; exact hb)⟩
  · rcases cut j a u h1 h2 with ⟨hm, h1, h2⟩ | ⟨i, u', h1', h2', rfl⟩
    · cases q : F' a with
      | none => rfl
      | some w =>
        have fa := k.fr j a u h1 h2 h3
        rcases k'.tr.nw a w q with ⟨x, z⟩ | z
        · have z' : F a = some x := z
          rw [fa] at z'; cases z'
        · obtain ⟨x, hx⟩ := (k.ob j a u h1 h2).some
          have z' : H a = none := z
          rw [hx] at z'; cases z'
    · exact k'.fr i a u' h1' h2' (OO.mv_gone h3)
  · rcases cut j a u h1 h2 with ⟨hm, h1, h2⟩ | ⟨i, u', h1', h2', rfl⟩
    · refine ((k.ob j a u h1 h2).mono tr.ff tr.pre).at fun w h => k'.tr.kp a w h fun z => ?_
      obtain ⟨i, hi, e⟩ := List.getElem_of_mem z
      have hi2 : i < js.length := by rw [← hl]; exact hi
      obtain ⟨q1, q2⟩ := hj i _ (List.getElem?_eq_getElem hi2)
      have e1 : θ0[i]? = some a := (List.getElem?_eq_getElem hi).trans (congrArg some e)
      rw [e1] at q1
      obtain ⟨b1, b2⟩ := List.getElem?_eq_some_iff.mp h1
      obtain ⟨b3, b4⟩ := List.getElem?_eq_some_iff.mp q1.symm
      have ej : j = js[i] := (List.getElem_inj k.nd).mp (b2.trans b4.symm)
      exact hm (by rw [ej]; exact List.getElem_mem hi2)
    · exact OO.mv_rep hl hj (k'.ob i a u' h1' h2')
end
end AB

set_option Elab.async false
set_option linter.all false
set_option maxRecDepth 100000
set_option maxHeartbeats 4000000
set_option autoImplicit false
namespace AB
open PySem L2 PySem.Spec PyProof.Rows
/-! ### try: several clauses «except C as n», one name n -/
abbrev Cls := List (Value × (Addr → Value → Option Addr → TS))
/-- the ends of a clause's suite: behind it the name is gone -/
def offE (i : Nat) (D : Ends) : Ends :=
  { nx := fun σ H => D.nx (σ.set i none) H, rt := D.rt, bk := fun σ H => D.bk (σ.set i none) H, ct := fun σ H => D.ct (σ.set i none) H }
def wCl (K : PySem.W.Frag) (i : Nat) (Wout : WX) (D : Ends) : Cls → WX
  | [] => Wout
  | c :: r => fun cls d σ H => ∃ b, PySem.W.exmOne K cls c.1 = some b ∧ (b = true → ∀ a, H a = none → c.2 a cls d (offE i D) (σ.set i (some (.ref a))) H) ∧ (b = false → wCl K i Wout D r cls d σ H)
inductive ClsOk (X : Cx) (n : Str) : List ExceptHandler → Cls → Prop
  | nil : ClsOk X n [] []
  | cons {x : Str} {c : Value} {ts : Addr → Value → Option Addr → TS} {b0 : Stmt} {suite : List Stmt} {np pos' : Pos} {hds : List ExceptHandler} {l : Cls} (hc : Names X x c)
      (hsu : ∀ (a : Addr) (oe : Obj) (cls : Value) (d : Option Addr) (pn : List (Addr × Obj)), Zc cls d oe → (∃ vs, oe.data = .fields vs) → PSs (X.suite a ((a, oe) :: pn)) (b0 :: suite) (ts a cls d)) (r : ClsOk X n hds l) :
      ClsOk X n (.ExceptHandler (some (.Name x np)) (some n) (b0 :: suite) pos' :: hds) ((c, ts) :: l)
section
variable {X : Cx} {n : Str} {i : Nat} {body : List Stmt} {h0 : ExceptHandler} {hds : List ExceptHandler} {l : Cls} {pos : Pos} {tb : WX → TS} {Wout : WX}
theorem ps_tryA (hs : X.stack = X.env :: X.outer) (hf : X.env.frame = some X.env.locals) (hN : X.N.Nodup) (hi : X.N[i]? = some n) (hln : X.env.kindOf n = some .local) (tk : Takes X Wout)
    (hb : ∀ (W : WX) (pn : List (Addr × Obj)) (xe : Value → Shared → Prop), Takes (X.tr pn xe) W → PassesOwn (model X.prog X.w) X.A X.env xe → PSs (X.tr pn xe) body (tb W))
    (hh : ClsOk X n (h0 :: hds) l) : PS X (.Try body (h0 :: hds) [] [] pos) (fun D σ H => tb (wCl X.K i Wout D l) D σ H) := by
  constructor
  intro pins s σ H D I h
  have ok := I.ok
  have hfr : X.A.frames = some (X.env :: X.outer) := by rw [ok.frames, hs]
  have hloc : Loc X.env.scope n := .inl hln
  let xe2 : Value → Shared → Prop := fun e s1 =>
    wpAny (model X.prog X.w) X.A (noteFrame e X.env) (fun _ s2 =>
      wpAny (model X.prog X.w) X.A (setFlight e none) (fun _ s3 =>
        wpAny (model X.prog X.w) X.A (handleBy e X.env (h0 :: hds)) (SP X pins D) X.xe s3) X.xe s2) X.xe s1
  refine wpAny_Try_except ?_
  have hrun := (hb (wCl X.K i Wout D l) (X.pn ++ pins) xe2 (fun u s' xx => ?_) PassesOwn.looking).run [] s σ H D (I.toTry _) h
  · refine wpAny_mono hrun (fun f s1 hsp => ?_) (fun e s1 he => he)
    cases f with
    | next => obtain ⟨σ', H', J', q⟩ := hsp; exact wpAny_execs_nil ⟨σ', H', J'.ofTry ok, q⟩
    | brk => obtain ⟨σ', H', J', q⟩ := hsp; exact ⟨σ', H', J'.ofTry ok, q⟩
    | cont => obtain ⟨σ', H', J', q⟩ := hsp; exact ⟨σ', H', J'.ofTry ok, q⟩
    | ret u => obtain ⟨v, σ', H', J', r, q⟩ := hsp; exact ⟨v, σ', H', J'.ofTry ok, r, q⟩
  · obtain ⟨a, B, sI, pins', σ', H', cls, d, rfl, J', nb, up, sky, na, os, ag, w⟩ := xx
    have J : Inv X pins σ' H' sI := J'.ofTry ok
    have sky' : Sky B (X.env :: X.outer) a (Zc cls d) X.env.locals s'.heap := hs ▸ sky
    show wpAny (model X.prog X.w) X.A (noteFrame (.ref a) X.env) _ _ _
    refine Sky.land Zc.steady hfr hf sky' fun h3 fl3 up3 => ?_
    have J3 : Inv X pins σ' H' { s' with heap := h3 } := J.landed nb fl3.1 (up.trans up3) os ag
    obtain ⟨oe3, vs3, he3, hz3, hd3⟩ := fl3.there
    have nfr : a ∉ frs (X.env :: X.outer) := fun hm => by
      obtain ⟨_, o', e', hnf⟩ := fl3.2.2.1.mem hm
      have e2 : oe3 = o' := Option.some.inj (he3.symm.trans e')
      exact hnf _ (e2 ▸ hd3)
    have nL : a ≠ X.env.locals := fun z => nfr (List.mem_filterMap.mpr ⟨X.env, List.mem_cons_self, by rw [hf, z]⟩)
    have nF : a ∉ X.fs := fun hm => by
      obtain ⟨e, he, q⟩ := List.mem_filterMap.mp hm
      exact nfr (List.mem_filterMap.mpr ⟨e, List.mem_cons_of_mem _ he, q⟩)
    have S3 := J3.suite he3 hd3 na nL nF
    have go : ∀ {hs' : List ExceptHandler} {l' : Cls}, ClsOk X n hs' l' → wCl X.K i Wout D l' cls d σ' H' →
        wpAny (model X.prog X.w) X.A (handleBy (.ref a) X.env hs') (SP X pins D) X.xe { s' with heap := h3 } := by
      intro hs' l' hk
      induction hk with
      | nil =>
        intro w
        refine wpAny_handleBy_nil ?_
        obtain ⟨k1, k2, k3, oe, vs, T, oT, ts', he, hz, hd, h1, hr⟩ := id fl3
        unfold PySem.passOn
        refine wpAny_bind (wpAny_field he hd h1 ?_)
        have nn : ¬ ((Value.ref T == Value.none) = true) := by simp
        rw [if_neg nn]
        have fin : wpAny (model X.prog X.w) X.A (setFlight (.ref a) X.env.frame)
            (fun _ s4 => wpAny (model X.prog X.w) X.A (throw (.ref a) : Sem Flow) (SP X pins D) X.xe s4) X.xe { s' with heap := h3 } := by
          rw [hf]
          refine HandSPX.setFlight_upZ fl3 fun h4 hh4 up4 => wpAny_throw (tk _ _ ?_)
          refine ⟨a, B, sI, pins, σ', H', cls, d, rfl, J, nb, (up.trans up3).trans up4, .inr (.inr ?_), na, os, ag, w⟩
          rw [hs]
          exact hh4
        first
          | exact wpAny_bind (wpAny_pure (wpAny_bind fin))
          | exact wpAny_bind fin
      | @cons x c ts b0 suite np pos' hds2 l2 hc hsu r ih =>
        intro w
        obtain ⟨b, hb1, hyes, hno⟩ := w
        refine wpAny_handleBy_cons (codeAny_handlers_test ?_) (by intro q; cases q)
        have LT : PySem.W.Looks (model X.prog X.w) h3 (typeOf (.ref a)) cls := fun A Q E s k q =>
          wpAny_typeOf_ref (k _ _ he3) (by rw [hz3.1]; exact q)
        have LM := PySem.W.exm_one (M := model X.prog X.w) (J3.kIn) LT hb1
        have test : ∀ {Q : Value → Shared → Prop} {E : Value → Shared → Prop}, Q c { s' with heap := h3 } →
            wpAny (model X.prog X.w) (X.A.mark (some (.ref a))) (eval (.Name x np) X.env) Q E { s' with heap := h3 } := fun {Q E} q => by
          obtain ⟨hg, hdbg, hm | ⟨hm, hv, hnn⟩⟩ := hc
          · exact ld_glob (X := X.suite a ((a, oe3) :: (X.pn ++ pins))) S3 hg hm q hdbg
          · exact ld_blt (X := X.suite a ((a, oe3) :: (X.pn ++ pins))) S3 hg hm hv q hnn hdbg
        refine test (LM.here ?_)
        cases b with
        | false =>
          show wpAny _ X.A (handleBy (.ref a) X.env hds2) _ _ _
          exact ih (hno rfl)
        | true =>
          refine codeAny_handlers_suite_as ?_
          refine HandSPX.lands_againZ fl3 fun h4 fl4 up4 => ?_
          have J4 : Inv X pins σ' H' { s' with heap := h4 } := J.landed nb fl4.1 ((up.trans up3).trans up4) os ag
          obtain ⟨oe4, vs4, he4, hz4, hd4⟩ := fl4.there
          have S4 := J4.suite he4 hd4 na nL nF
          refine store_ok (X := X.suite a ((a, oe4) :: (X.pn ++ pins))) (v := .ref a) S4 hN hi hloc rfl (fun s5 S5 => ?_) (.inr hln)
          have hsuite := (hsu a oe4 cls d (X.pn ++ pins) hz4 ⟨_, hd4⟩).run [] s5 _ H' _ S5 (hyes rfl a na)
          refine wpAny_mono hsuite (fun f s6 hsp => ?_) (fun _ _ z => False.elim z)
          have leave : ∀ {σ6 : L2.St} {H6 : Hp} {Q : Shared → Prop}, Inv (X.suite a ((a, oe4) :: (X.pn ++ pins))) [] σ6 H6 s6 →
              (∀ s7, Inv X pins (σ6.set i none) H6 s7 → Q s7) →
              wpAny (model X.prog X.w) X.A (do bindName X.env n .none; unbindBehindTheSuite X.env n pos') (fun _ s7 => Q s7) X.xe s6 :=
            fun {σ6 H6 Q} S6 hq => gone_ok (S6.unsuite ok) hN hi hln hq
          cases f with
          | next => obtain ⟨σ6, H6, S6, q6⟩ := hsp; exact leave S6 fun s7 J7 => ⟨_, _, J7, q6⟩
          | brk => obtain ⟨σ6, H6, S6, q6⟩ := hsp; exact leave S6 fun s7 J7 => ⟨_, _, J7, q6⟩
          | cont => obtain ⟨σ6, H6, S6, q6⟩ := hsp; exact leave S6 fun s7 J7 => ⟨_, _, J7, q6⟩
          | ret u => obtain ⟨v6, σ6, H6, S6, r6, q6⟩ := hsp; exact leave S6 fun s7 J7 => ⟨_, _, _, J7, r6, q6⟩
    exact go hh w
end
end AB

set_option Elab.async false
set_option linter.all false
set_option maxRecDepth 100000
set_option maxHeartbeats 4000000
set_option autoImplicit false
namespace AB
open PySem L2 PySem.Spec PyProof.Rows
section
variable {B : Base} {ρ : R} {o : O} {P : Sl → O → Prop} {K : PySem.W.Frag} {D0 : AD} {te ta : TE}
/-! ### calls of defs -/
theorem hand_state {F H : Hp} {θ : List Addr} {σ : L2.St} {js : List Nat} {ss ss0 : List Sl} {vs : List V} {o0 : O} (k : Ok B F H θ σ ρ o) (hd : Hand o js ss ss0 o0) (r : RepSL F θ vs ss) :
    ∃ θ0 : List Addr, θ0.length = js.length ∧ (∀ i j : Nat, js[i]? = some j → θ0[i]? = θ[j]? ∧ j < θ.length) ∧ Ok ⟨F, H, θ0⟩ F H θ0 (vs.map some) (ss0.map some) o0 := by
  have lt : ∀ i j : Nat, js[i]? = some j → j < θ.length := fun i j h => by
    obtain ⟨u0, _, h2, _⟩ := hd.ob i j h
    rw [k.len]
    exact (List.getElem?_eq_some_iff.mp h2).1
  refine ⟨js.map fun j => (θ[j]?).getD 0, by rw [List.length_map], fun i j h => ⟨?_, lt i j h⟩, ?_⟩
  · rw [List.getElem?_map, h]
    show some ((θ[j]?).getD 0) = θ[j]?
    rw [List.getElem?_eq_getElem (lt i j h)]
    rfl
  have hl : (js.map fun j => (θ[j]?).getD 0).length = js.length := by rw [List.length_map]
  have hj : ∀ i j : Nat, js[i]? = some j → (js.map fun j => (θ[j]?).getD 0)[i]? = θ[j]? ∧ j < θ.length := fun i j h => ⟨by
    rw [List.getElem?_map, h]
    show some ((θ[j]?).getD 0) = θ[j]?
    rw [List.getElem?_eq_getElem (lt i j h)]
    rfl, lt i j h⟩
  generalize hθ : (js.map fun j => (θ[j]?).getD 0) = θ0 at hl hj
  have at0 : ∀ (i : Nat) a, θ0[i]? = some a → ∃ j, js[i]? = some j ∧ θ[j]? = some a := fun i a h => by
    have hi : i < js.length := by rw [← hl]; exact (List.getElem?_eq_some_iff.mp h).1
    refine ⟨js[i], List.getElem?_eq_getElem hi, ?_⟩
    rw [← (hj i _ (List.getElem?_eq_getElem hi)).1]
    exact h
  refine ⟨Tr.refl _ _ _, k.fh, by rw [hl, hd.len], ?_, fun i a u h1 h2 h3 => ?_, fun i a u h1 h2 => ?_, ?_⟩
  · refine List.pairwise_iff_getElem.mpr fun i i' hi hi' hlt e => ?_
    obtain ⟨j, q1, q2⟩ := at0 i _ (List.getElem?_eq_getElem hi)
    obtain ⟨j', q3, q4⟩ := at0 i' _ (List.getElem?_eq_getElem hi')
    rw [← e] at q4
    obtain ⟨b1, b2⟩ := List.getElem?_eq_some_iff.mp q2
    obtain ⟨b3, b4⟩ := List.getElem?_eq_some_iff.mp q4
    have ej : j = j' := (List.getElem_inj k.nd).mp (b2.trans b4.symm)
    subst ej
    obtain ⟨c1, c2⟩ := List.getElem?_eq_some_iff.mp q1
    obtain ⟨c3, c4⟩ := List.getElem?_eq_some_iff.mp q3
    have ei : i = i' := (List.getElem_inj hd.nd).mp (c2.trans c4.symm)
    omega
  · obtain ⟨j, q1, q2⟩ := at0 i a h1
    obtain ⟨u0, z1, z2, z3⟩ := hd.ob i j q1
    rw [h2] at z1
    cases z1
    exact k.fr j a _ q2 z2 (mv_ng z3)
  · obtain ⟨j, q1, q2⟩ := at0 i a h1
    obtain ⟨u0, z1, z2, z3⟩ := hd.ob i j q1
    rw [h2] at z1
    cases z1
    rw [← k.len] at z2
    exact OO.mv_per hl hj (k.ob j a _ q2 z2)
  · have r' : RepSL F θ vs (ss0.map (Sl.mv (mvI js θ.length))) := by
      have := hd.ss
      rw [← k.len] at this
      rw [← this]
      exact r
    have r0 : RepSL F θ0 vs ss0 := mapSl (fun v s h => Sl.mv_per hl hj h) r'
    refine ⟨by rw [List.length_map, List.length_map]; exact Paired.len r0, fun i s e => ?_⟩
    rw [List.getElem?_map] at e
    cases q : ss0[i]? with
    | none => rw [q] at e; cases e
    | some s' =>
      rw [q] at e
      have e' : s' = s := by simpa using e
      subst e'
      obtain ⟨v, h1, h2⟩ := r0.get q
      exact ⟨v, by rw [List.getElem?_map, h1]; rfl, h2⟩
theorem e_call {C : Con} {t : TA} {W : WX} (h : AA B t ρ o fun ss o1 => ∃ js ss0 o0, Hand o1 js ss ss0 o0 ∧ C ss0 o0 (fun s o' => P (s.mv (mvI js o1.length)) (back o1 js o')) (fun C' fs o' => AX B W ρ (back o1 js o') C' fs)) : AE B (tCallS (SpC C) (WE W) t) ρ o P := by
  intro F H θ σ k Q q
  refine h F H θ σ k _ fun vs ss F1 H1 θ1 o1 t1 k1 r1 p1 => ?_
  obtain ⟨js, ss0, o0, hd, c⟩ := p1
  obtain ⟨θ0, hl, hj, k0⟩ := hand_state k1 hd r1
  refine ⟨F1, θ0, ss0, o0, _, _, k0, c, fun v s F' H' θ' o' k' r p => ?_, fun C' dd fs ks F' H' θ' o' k' e r p => ?_⟩
  · obtain ⟨u, rfl, t2, k2⟩ := call_back k1 hd hl hj k'
    exact q v _ F' H' _ _ (t1.trans t2) k2 (by rw [← k1.len]; exact Sl.mv_rep hl hj r) p
  · obtain ⟨u, rfl, t2, k2⟩ := call_back k1 hd hl hj k'
    exact p F' H' _ σ dd ks k2 e r
/-- no own object is handed over -/
theorem hand0 {ds : List D} : Hand o [] (ds.map Sl.da) (ds.map Sl.da) [] :=
  ⟨List.nodup_nil, rfl, by rw [List.map_map]; rfl, fun i j h => by simp at h⟩
theorem back0 {o' : O} : back o [] o' = o ++ o'.map (OO.mv (mvI [] o.length)) := by
  unfold back setJ
  simp
theorem e_call0 {C : Con} {t : TA} {W : WX} (h : AA B t ρ o fun ss o1 => ∃ ds : List D, ss = ds.map Sl.da ∧ C (ds.map Sl.da) [] (fun s o' => P (s.mv (mvI [] o1.length)) (o1 ++ o'.map (OO.mv (mvI [] o1.length)))) (fun C' fs o' => AX B W ρ (o1 ++ o'.map (OO.mv (mvI [] o1.length))) C' fs)) : AE B (tCallS (SpC C) (WE W) t) ρ o P :=
  e_call fun F H θ σ k Q q => h F H θ σ k Q fun vs ss F' H' θ' o' t' k' r' p => by
    obtain ⟨ds, rfl, c⟩ := p
    exact q vs _ F' H' θ' o' t' k' r' ⟨[], _, [], hand0, by simpa only [back0] using c⟩
/-- one own object is handed over -/
theorem e_call1 {C : Con} {t : TA} {W : WX} (h : AA B t ρ o fun ss o1 => ∃ j ss0 u, ss = ss0.map (Sl.mv (mvI [j] o1.length)) ∧ o1[j]? = some (OO.mv (mvI [j] o1.length) u) ∧ u ≠ .gone ∧
    C ss0 [u] (fun s o' => P (s.mv (mvI [j] o1.length)) (back o1 [j] o')) (fun C' fs o' => AX B W ρ (back o1 [j] o') C' fs)) : AE B (tCallS (SpC C) (WE W) t) ρ o P :=
  e_call fun F H θ σ k Q q => h F H θ σ k Q fun vs ss F' H' θ' o' t' k' r' p => by
    obtain ⟨j, ss0, u, rfl, e, hg, c⟩ := p
    refine q vs _ F' H' θ' o' t' k' r' ⟨[j], ss0, [u], ⟨by simp, rfl, rfl, fun i j' h => ?_⟩, c⟩
    have hi : i = 0 := by
      cases i with
      | zero => rfl
      | succ n => simp at h
    subst hi
    have hj : j = j' := by simpa using h
    subst hj
    exact ⟨u, rfl, e, hg⟩
/-- a state of fewer claims: an own list of data that is lent stands as data -/
theorem Ok.lend {F H : Hp} {θ : List Addr} {σ : L2.St} {j : Nat} {ds : List D} (k : Ok B F H θ σ ρ o) (h : o[j]? = some (.lst (ds.map Sl.da))) :
    ∃ a xs, θ[j]? = some a ∧ H a = some (.lst xs) ∧ RepL F xs ds := by
  obtain ⟨a, ha, xs, h1, h2⟩ := k.own h
  exact ⟨a, xs, ha, h1, da_all h2⟩
/-! ### exceptions -/
theorem RepF.get {F : Hp} {f : Str} : ∀ {ks : List (Str × V)} {fs : List (Str × D)} {d : D}, RepF F ks fs → fs.lookup f = some d → ∃ v, ks.lookup f = some v ∧ Rep F v d
  | _, _, _, .nil, e => by cases e
  | _, _, _, @RepF.cons _ k v vs d ds h r, e => by
    by_cases q : f = k
    · subst q
      rw [List.lookup, beq_self_eq_true] at e
      cases e
      exact ⟨v, by rw [List.lookup, beq_self_eq_true], h⟩
    · have qb : (f == k) = false := by simpa using q
      rw [List.lookup, qb] at e
      obtain ⟨w, h1, h2⟩ := RepF.get r e
      exact ⟨w, by rw [List.lookup, qb]; exact h1, h2⟩
theorem e_xf {a dd C : Addr} {f : Str} (h : AE B te ρ o fun s o1 => ∃ fs d, s = .da (.exc a dd fs) ∧ fs.lookup f = some d ∧ P (.da d) o1) : AE B (tXf a (.ref C) (some dd) C f te) ρ o P := fun F H θ σ k Q q =>
  h F H θ σ k _ fun v s F1 H1 θ1 o1 t1 k1 r1 p1 => by
    obtain ⟨fs, d, rfl, e, p⟩ := p1
    cases r1 with
    | exc h1 h2 =>
      obtain ⟨w, h3, h4⟩ := h2.get e
      exact ⟨rfl, rfl, dd, _, w, rfl, k1.fh dd _ h1, h3, q w _ F1 H1 θ1 o1 t1 k1 (RepS.dat h4) p⟩
def offA (i : Nat) (D : AD) : AD := { nx := fun ρ o => D.nx (ρ.set i none) o, rt := D.rt, bk := fun ρ o => D.bk (ρ.set i none) o, ct := fun ρ o => D.ct (ρ.set i none) o }
def XCl (K : PySem.W.Frag) (i : Nat) (B : Base) (D0 : AD) (Xo : R → O → Addr → List (Str × D) → Prop) : Cls → R → O → Addr → List (Str × D) → Prop
  | [] => Xo
  | c :: r => fun ρ o C fs => ∃ b, PySem.W.exmOne K (.ref C) c.1 = some b ∧ (b = true → ∀ a dd, WS B (c.2 a (.ref C) (some dd)) (offA i D0) (ρ.set i (some (.da (.exc a dd fs)))) o) ∧ (b = false → XCl K i B D0 Xo r ρ o C fs)
/-- the base moved to where one stands -/
theorem Ok.rebase {F H F' H' : Hp} {θ θ' : List Addr} {σ σ' : L2.St} {ρ' : R} {o' : O} (k : Ok B F H θ σ ρ o) (k' : Ok ⟨F, H, θ⟩ F' H' θ' σ' ρ' o') : Ok B F' H' θ' σ' ρ' o' :=
  ⟨k.tr.trans k'.tr, k'.fh, k'.len, k'.nd, k'.fr, k'.ob, k'.sl⟩
theorem Ok.self {F H : Hp} {θ : List Addr} {σ : L2.St} (k : Ok B F H θ σ ρ o) : Ok ⟨F, H, θ⟩ F H θ σ ρ o := ⟨Tr.refl _ _ _, k.fh, k.len, k.nd, k.fr, k.ob, k.sl⟩
theorem s_try {i : Nat} {Wout : WX} {l : Cls} {tb : WX → TS} (Xo : R → O → Addr → List (Str × D) → Prop) (hX : ∀ ρ o C fs, Xo ρ o C fs → AX B Wout ρ o C fs)
    (h : ∀ B' W, (∀ ρ o C fs, XCl K i B D0 Xo l ρ o C fs → AX B' W ρ o C fs) → WS B' (tb W) D0 ρ o) : WS B (fun D σ H => tb (wCl K i Wout D l) D σ H) D0 ρ o := by
  intro F H θ σ k E hE
  have key : ∀ l : Cls, ∀ ρ o C fs, XCl K i B D0 Xo l ρ o C fs → AX ⟨F, H, θ⟩ (wCl K i Wout E l) ρ o C fs := by
    intro l
    induction l with
    | nil =>
      intro ρ' o' C fs x F' H' θ' σ' dd ks k' e r
      exact hX ρ' o' C fs x F' H' θ' σ' dd ks (k.rebase k') e r
    | cons c r ih =>
      intro ρ' o' C fs x F' H' θ' σ' dd ks k' e rf
      obtain ⟨b, hb, h1, h2⟩ := x
      refine ⟨b, hb, fun q a ha => ?_, fun q => ih ρ' o' C fs (h2 q) F' H' θ' σ' dd ks k' e rf⟩
      have k2 := k.rebase k'
      refine h1 q a dd F' H' θ' _ (k2.slots (k2.sl.set (v := .ref a) (RepS.dat (Rep.exc e rf)))) _ ?_
      have S := hE.on k'.tr.w
      exact ⟨fun F2 H2 θ2 σ2 ρ2 o2 t2 k3 p => S.nx F2 H2 θ2 _ _ o2 t2 (k3.slots (k3.sl.none none)) p, fun F2 H2 θ2 σ2 ρ2 o2 v s t2 k3 r p => S.rt F2 H2 θ2 σ2 ρ2 o2 v s t2 k3 r p,
        fun F2 H2 θ2 σ2 ρ2 o2 t2 k3 p => S.bk F2 H2 θ2 _ _ o2 t2 (k3.slots (k3.sl.none none)) p, fun F2 H2 θ2 σ2 ρ2 o2 t2 k3 p => S.ct F2 H2 θ2 _ _ o2 t2 (k3.slots (k3.sl.none none)) p⟩
  refine h ⟨F, H, θ⟩ (wCl K i Wout E l) (key l) F H θ σ k.self E ⟨fun F' H' θ' σ ρ o t k' p => hE.nx F' H' θ' σ ρ o t (k.rebase k') p, fun F' H' θ' σ ρ o v s t k' r p => hE.rt F' H' θ' σ ρ o v s t (k.rebase k') r p,
    fun F' H' θ' σ ρ o t k' p => hE.bk F' H' θ' σ ρ o t (k.rebase k') p, fun F' H' θ' σ ρ o t k' p => hE.ct F' H' θ' σ ρ o t (k.rebase k') p⟩
end
end AB

set_option Elab.async false
set_option linter.all false
set_option maxRecDepth 100000
set_option maxHeartbeats 4000000
set_option autoImplicit false
namespace AB
open PySem L2 PySem.Spec PyProof.Rows
/-! ### own objects changed -/
theorem pget_list {X : Cx} : PGet X (rIxL X.K) := by
  intro pins s σ H o i ov iv Q I ro ri h
  obtain ⟨p, xs, k, z, rfl, rfl, hq, he, q⟩ := h
  cases ro
  obtain ⟨t, rfl⟩ := ri
  obtain ⟨its, r, pl, hz⟩ := I.list hq
  obtain ⟨j, h1, h2, h3, h4, h5⟩ := atI_get he
  obtain ⟨w, ew, rw'⟩ := r.get h2
  have hl := r.length
  have hn := line63
  have fin : EP X pins σ Q w s := ⟨z, H, I, rw', q⟩
  obtain ⟨j', e1, e2⟩ := atI_eq he
  have hj' : j' = j := by
    obtain ⟨e3, _⟩ := ixN_seq e1
    rw [h1] at e3
    exact (Option.some.inj e3).symm
  subst hj'
  unfold ixN at e1
  by_cases h0 : 0 ≤ k
  · rw [if_pos h0, if_pos h5] at e1
    have ek : k.toNat = j' := Option.some.inj e1
    exact wpAny_getItem_list pl.isList h0 (by omega) (by rw [ek]; simpa using ew) fin
  · rw [if_neg h0, if_pos h4] at e1
    have ek : (k + xs.length).toNat = j' := Option.some.inj e1
    refine wpAny_getItem_list_neg pl.isList (by omega) (by simp; omega) (by omega) ?_ fin
    have e3 : (k + (its.toArray.size : Int)).toNat = j' := by
      rw [List.size_toArray, ← hl]
      exact ek
    rw [e3]
    simpa using ew
section
variable {B : Base} {ρ : R} {o : O} {P : Sl → O → Prop} {K : PySem.W.Frag} {D0 : AD} {te ta to ti tb : TE}
theorem ow_at {F H : Hp} {θ : List Addr} {σ : L2.St} {j : Nat} {ss : List Sl} {v : V} (k : Ok B F H θ σ ρ o) (h : o[j]? = some (.lst ss)) (r : RepS F θ v (.ow j)) : ∃ a xs, v = .ref a ∧ θ[j]? = some a ∧ H a = some (.lst xs) ∧ RepSL F θ xs ss := by
  obtain ⟨a, rfl, ha⟩ := r
  obtain ⟨b, hb, xs, h1, h2⟩ := k.own h
  rw [ha] at hb
  cases hb
  exact ⟨a, xs, rfl, ha, h1, h2⟩
/-- a method of a list -/
theorem e_bm {r : V → List V → Hp → VK → Prop} {t : TA} (h : AE B to ρ o fun x o1 => (∃ ss, LL o1 x ss) ∧ AA B t ρ o1 fun xs o2 => AM B r x xs o2 P) : AE B (tBM K "list" r to t) ρ o P := by
  intro F H θ σ k Q q
  refine h F H θ σ k _ fun v x F1 H1 θ1 o1 t1 k1 r1 p1 => ?_
  obtain ⟨⟨ss, hL⟩, p1⟩ := p1
  obtain ⟨a, xs, rfl, ha, rl⟩ := hL.at k1 r1
  refine ⟨.inl ⟨rfl, xs, SqL.of ha⟩, p1 F1 H1 θ1 σ k1 _ fun vs ys F2 H2 θ2 o2 t2 k2 r2 p2 => ?_⟩
  exact p2 F2 H2 θ2 σ ρ _ vs k2 (r1.mono t2.ff t2.pre) r2 Q fun w s F' H' θ' o' t3 k3 r3 p3 => q w s F' H' θ' o' ((t1.trans t2).trans t3) k3 r3 p3
theorem e_bm0 {r : V → List V → Hp → VK → Prop} (h : AE B to ρ o fun x o1 => (∃ ss, LL o1 x ss) ∧ AM B r x [] o1 P) : AE B (tBM0 K "list" r to) ρ o P := by
  intro F H θ σ k Q q
  refine h F H θ σ k _ fun v x F1 H1 θ1 o1 t1 k1 r1 p1 => ?_
  obtain ⟨⟨ss, hL⟩, p1⟩ := p1
  obtain ⟨a, xs, rfl, ha, rl⟩ := hL.at k1 r1
  exact ⟨.inl ⟨rfl, xs, SqL.of ha⟩, p1 F1 H1 θ1 σ ρ _ [] k1 r1 .nil Q fun w s F' H' θ' o' t3 k3 r3 p3 => q w s F' H' θ' o' (t1.trans t3) k3 r3 p3⟩
theorem m_append {j : Nat} {ss : List Sl} {y : Sl} (h : o[j]? = some (.lst ss)) (hl : ss.length < sizeLine) (p : P (.da .non) (o.set j (.lst (ss ++ [y])))) : AM B rAppend (.ow j) [y] o P := fun F H θ σ ρ v vs k r rs Q q => by
  cases rs with
  | @cons u _ _ _ ry rn =>
    cases rn
    obtain ⟨a, xs, rfl, hj, ha, rl⟩ := ow_at k h r
    refine ⟨a, xs, u, rfl, rfl, ha, by rw [Paired.len rl]; exact hl, ?_⟩
    obtain ⟨t2, k2⟩ := k.chg (u := .lst (xs ++ [u])) (w := .lst (ss ++ [y])) hj h (fun z => by cases z) ⟨_, upd_same, rl.app (.cons ry .nil)⟩ (fun z => by cases z)
    exact q _ _ _ _ _ _ t2.w k2 (RepS.dat Rep.non) p
theorem RepSL_dropLast {F : Hp} {θ : List Addr} : ∀ {vs : List V} {ss : List Sl}, RepSL F θ vs ss → RepSL F θ vs.dropLast ss.dropLast
  | _, _, .nil => .nil
  | _, _, .cons _ .nil => .nil
  | _, _, .cons h (.cons h2 r) => .cons h (RepSL_dropLast (.cons h2 r))
theorem m_pop {j : Nat} {ss : List Sl} {y : Sl} (h : o[j]? = some (.lst (ss ++ [y]))) (p : P y (o.set j (.lst ss))) : AM B rPop (.ow j) [] o P := fun F H θ σ ρ v vs k r rs Q q => by
  cases rs
  obtain ⟨a, xs, rfl, hj, ha, rl⟩ := ow_at k h r
  have hlen := Paired.len rl
  rw [List.length_append, List.length_singleton] at hlen
  obtain ⟨w, hw1, hw2⟩ := rl.get (i := ss.length) (s := y) (by rw [List.getElem?_append_right (Nat.le_refl _)]; simp)
  refine ⟨a, xs, w, rfl, rfl, ha, by rw [hlen]; simpa using hw1, ?_⟩
  have e : RepSL F θ xs.dropLast ss := by
    have := RepSL_dropLast rl
    simpa using this
  obtain ⟨t2, k2⟩ := k.chg (u := .lst xs.dropLast) (w := .lst ss) hj h (fun z => by cases z) ⟨_, upd_same, e⟩ (fun z => by cases z)
  exact q _ _ _ _ _ _ t2.w k2 (hw2.mono t2.ff t2.pre) p
theorem RepSL.set {F : Hp} {θ : List Addr} {v : V} {s : Sl} (r : RepS F θ v s) : ∀ {vs : List V} {ss : List Sl} (i : Nat), RepSL F θ vs ss → RepSL F θ (vs.set i v) (ss.set i s)
  | _, _, _, .nil => .nil
  | _, _, 0, .cons _ t => .cons r t
  | _, _, i + 1, .cons q t => .cons q (RepSL.set r i t)
/-- xs[i] = e -/
theorem g_set {s : Sl} {P : R → O → Prop} (h : AE B to ρ o fun x o1 => AE B ti ρ o1 fun y o2 => ∃ j ss i k, x = .ow j ∧ y = .da (.int i) ∧ o2[j]? = some (.lst ss) ∧ ixN ss.length i = some k ∧ P ρ (o2.set j (.lst (ss.set k s)))) : AG B (gSub to ti rSetL) s ρ o P := by
  intro F H θ σ v k0 r0 Q q
  refine h F H θ σ k0 _ fun x X F1 H1 θ1 o1 t1 k1 r1 p1 => ?_
  refine p1 F1 H1 θ1 σ k1 _ fun y Y F2 H2 θ2 o2 t2 k2 r2 p2 => ?_
  obtain ⟨j, ss, i, k, rfl, rfl, ho, hi, p⟩ := p2
  obtain ⟨a, xs, rfl, hj, ha, rl⟩ := ow_at k2 ho (r1.mono t2.ff t2.pre)
  have ey := rep_int r2
  subst ey
  have r0' := (r0.mono t1.ff t1.pre).mono t2.ff t2.pre
  obtain ⟨t3, k3⟩ := k2.chg (u := .lst (xs.set k v)) (w := .lst (ss.set k s)) hj ho (fun z => by cases z) ⟨_, upd_same, RepSL.set r0' k rl⟩ (fun z => by cases z)
  exact ⟨a, xs, i, k, rfl, rfl, ha, by rw [Paired.len rl]; exact hi, q _ _ _ _ _ _ ((t1.trans t2).trans t3.w) k3 p⟩
/-- xs[i] op= e -/
theorem s_augS {tip : TIp} (h : AE B to ρ o fun x o1 => AE B ti ρ o1 fun y o2 => ∃ j ss i k s, x = .ow j ∧ y = .da (.int i) ∧ o2[j]? = some (.lst ss) ∧ ixN ss.length i = some k ∧ ss[k]? = some s ∧
    AE B te ρ o2 fun z o3 => A2 B tip s z o3 fun w o4 => ∃ ss', o4[j]? = some (.lst ss') ∧ ixN ss'.length i = some k ∧ D0.nx ρ (o4.set j (.lst (ss'.set k w)))) : WS B (tAugS to ti te (rIxL K) tip rSetL) D0 ρ o := by
  intro F H θ σ k0 E hE
  refine h F H θ σ k0 _ fun x X F1 H1 θ1 o1 t1 k1 r1 p1 => ?_
  refine p1 F1 H1 θ1 σ k1 _ fun y Y F2 H2 θ2 o2 t2 k2 r2 p2 => ?_
  obtain ⟨j, ss, i, k, s, rfl, rfl, ho, hi, hs, p⟩ := p2
  have r1' := r1.mono t2.ff t2.pre
  obtain ⟨a, xs, rfl, hj, ha, rl⟩ := ow_at k2 ho r1'
  have ey := rep_int r2
  subst ey
  obtain ⟨w0, hw1, hw2⟩ := rl.get hs
  refine ⟨a, xs, i, w0, rfl, rfl, SqL.of ha, atI_of (by rw [Paired.len rl]; exact hi) hw1, ?_⟩
  refine p F2 H2 θ2 σ k2 _ fun z Z F3 H3 θ3 o3 t3 k3 r3 p3 => ?_
  refine p3 F3 H3 θ3 σ ρ w0 z k3 (hw2.mono t3.ff t3.pre) r3 _ fun w s' F4 H4 θ4 o4 t4 k4 r4 p4 => ?_
  obtain ⟨ss', ho', hi', p5⟩ := p4
  obtain ⟨a', xs', e, hj', ha', rl'⟩ := ow_at k4 ho' ((r1'.mono t3.ff t3.pre).mono t4.ff t4.pre)
  cases e
  obtain ⟨t5, k5⟩ := k4.chg (u := .lst (xs'.set k w)) (w := .lst (ss'.set k s')) hj' ho' (fun z => by cases z) ⟨_, upd_same, RepSL.set r4 k rl'⟩ (fun z => by cases z)
  exact ⟨a, xs', i, k, rfl, rfl, ha', by rw [Paired.len rl']; exact hi', hE.nx _ _ _ _ _ _ ((((t1.trans t2).trans t3).trans t4).trans t5.w) k5 p5⟩
theorem ip_I {f : Int → Int → Int} {i j : Int} (p : P (.da (.int (f i j))) o) : A2 B (ipI f) (.da (.int i)) (.da (.int j)) o P :=
  A2.of (z := .da (.int (f i j))) (fun F H θ σ ρ v u k r1 r2 Q q => ⟨i, j, rep_int r1, rep_int r2, q _ (Rep.int _)⟩) p
/-- d[k] = v -/
def putS (l : List (Key × Sl)) (k : Key) (v : Sl) : List (Key × Sl) := if (l.any fun kv => decide (kv.1 = k)) = true then l.map (fun kv => if kv.1 = k then (kv.1, v) else kv) else l ++ [(k, v)]
theorem RepSK.any {F : Hp} {θ : List Addr} {k : Key} : ∀ {ks : List (Key × V)} {ds : List (Key × Sl)}, RepSK F θ ks ds → (ks.any fun kv => decide (kv.1 = k)) = (ds.any fun kv => decide (kv.1 = k))
  | _, _, .nil => rfl
  | (k', v) :: vs, (k'', d) :: ds, .cons ⟨e0, h⟩ r => by
    obtain rfl : k' = k'' := e0
    simp only [List.any_cons]
    rw [RepSK.any r]
theorem RepSK.map {F : Hp} {θ : List Addr} {k : Key} {v : V} {s : Sl} (hv : RepS F θ v s) : ∀ {ks : List (Key × V)} {ds : List (Key × Sl)}, RepSK F θ ks ds → RepSK F θ (ks.map fun kv => if kv.1 = k then (kv.1, v) else kv) (ds.map fun kv => if kv.1 = k then (kv.1, s) else kv)
  | _, _, .nil => .nil
  | (k', w) :: vs, (k'', d) :: ds, .cons ⟨e0, h⟩ r => by
    obtain rfl : k' = k'' := e0
    rw [List.map_cons, List.map_cons]
    refine .cons ?_ (RepSK.map hv r)
    by_cases e : k' = k
    · show _ ∧ _
      dsimp only
      rw [if_pos e, if_pos e]
      exact ⟨rfl, hv⟩
    · show _ ∧ _
      dsimp only
      rw [if_neg e, if_neg e]
      exact ⟨rfl, h⟩
theorem RepSK.app {F : Hp} {θ : List Addr} {k : Key} {v : V} {s : Sl} (hv : RepS F θ v s) : ∀ {ks : List (Key × V)} {ds : List (Key × Sl)}, RepSK F θ ks ds → RepSK F θ (ks ++ [(k, v)]) (ds ++ [(k, s)])
  | _, _, .nil => .cons ⟨rfl, hv⟩ .nil
  | _, _, .cons h r => .cons h (RepSK.app hv r)
theorem RepSK.put {F : Hp} {θ : List Addr} {k : Key} {v : V} {s : Sl} {ks : List (Key × V)} {ds : List (Key × Sl)} (hv : RepS F θ v s) (r : RepSK F θ ks ds) : RepSK F θ (putK ks k v) (putS ds k s) := by
  unfold putK putS
  rw [r.any (k := k)]
  split
  · exact RepSK.map hv r
  · exact RepSK.app hv r
theorem s_dput {tv : TE} (h : AE B te ρ o fun s o1 => AE B to ρ o1 fun x o2 => AE B ti ρ o2 fun y o3 => ∃ j l k, x = .ow j ∧ y = .da (keyD k) ∧ o3[j]? = some (.dic l) ∧ l.length < sizeLine ∧ D0.nx ρ (o3.set j (.dic (putS l k s)))) : WS B (sDPut to ti te) D0 ρ o := by
  intro F H θ σ k0 E hE
  refine h F H θ σ k0 _ fun v s F1 H1 θ1 o1 t1 k1 r1 p1 => ?_
  refine p1 F1 H1 θ1 σ k1 _ fun x X F2 H2 θ2 o2 t2 k2 r2 p2 => ?_
  refine p2 F2 H2 θ2 σ k2 _ fun y Y F3 H3 θ3 o3 t3 k3 r3 p3 => ?_
  obtain ⟨j, l, kk, rfl, rfl, ho, hl, p⟩ := p3
  obtain ⟨a, rfl, ha⟩ := r2.mono t3.ff t3.pre
  obtain ⟨b, hb, ks, h1, rk⟩ := k3.own ho
  rw [ha] at hb
  cases hb
  have ey := rep_key r3
  subst ey
  have rv := (r1.mono t2.ff t2.pre).mono t3.ff t3.pre
  obtain ⟨t4, k4⟩ := k3.chg (u := .dK (putK ks kk v)) (w := .dic (putS l kk s)) ha ho (fun z => by cases z) ⟨_, upd_same, RepSK.put rv rk⟩ (fun z => by cases z)
  exact ⟨a, _, rfl, DPut.k h1 (by rw [Paired.len rk]; exact hl), hE.nx _ _ _ _ _ _ (((t1.trans t2).trans t3).trans t4.w) k4 p⟩
/-! ### slices -/
def AO (B : Base) (t : TO) (ρ : R) (o : O) (P : Option Int → O → Prop) : Prop :=
  ∀ F H θ σ, Ok B F H θ σ ρ o → ∀ Q : Option Int → Hp → Prop, (∀ b F' H' θ' o', Tw F H θ F' H' θ' → Ok B F' H' θ' σ ρ o' → P b o' → Q b H') → t σ H Q
theorem l_none {P : Option Int → O → Prop} (p : P none o) : AO B tNoPart ρ o P := fun F H θ σ k Q q => q none F H θ o (Tw.refl F H θ) k p
theorem l_some {P : Option Int → O → Prop} (h : AE B te ρ o fun s o1 => ∃ i, s = .da (.int i) ∧ P (some i) o1) : AO B (tPart te) ρ o P := fun F H θ σ k Q q =>
  h F H θ σ k _ fun v s F1 H1 θ1 o1 t1 k1 r1 ⟨i, e, p⟩ => by
    subst e
    have e := rep_int r1
    subst e
    exact ⟨i, rfl, q _ F1 H1 θ1 o1 t1 k1 p⟩
def A3 (B : Base) (r : V → Option Int → Option Int → Hp → VK → Prop) (x : Sl) (lo hi : Option Int) (o : O) (P : Sl → O → Prop) : Prop :=
  ∀ F H θ σ ρ v, Ok B F H θ σ ρ o → RepS F θ v x → ∀ Q : VK, (∀ w s F' H' θ' o', Tw F H θ F' H' θ' → Ok B F' H' θ' σ ρ o' → RepS F' θ' w s → P s o' → Q w H') → r v lo hi H Q
theorem e_sl {r : V → Option Int → Option Int → Hp → VK → Prop} {tl th : TO} (h : AE B te ρ o fun x o1 => AO B tl ρ o1 fun lo o2 => AO B th ρ o2 fun hi o3 => A3 B r x lo hi o3 P) : AE B (tSl r te tl th) ρ o P := by
  intro F H θ σ k Q q
  refine h F H θ σ k _ fun v x F1 H1 θ1 o1 t1 k1 r1 p1 => ?_
  refine p1 F1 H1 θ1 σ k1 _ fun lo F2 H2 θ2 o2 t2 k2 p2 => ?_
  refine p2 F2 H2 θ2 σ k2 _ fun hi F3 H3 θ3 o3 t3 k3 p3 => ?_
  exact p3 F3 H3 θ3 σ ρ v k3 ((r1.mono t2.ff t2.pre).mono t3.ff t3.pre) Q fun w s F' H' θ' o' t4 k4 r4 p4 => q w s F' H' θ' o' (((t1.trans t2).trans t3).trans t4) k4 r4 p4
theorem sl_str {z : Str} {lo hi : Option Int} (hl : z.length ≤ sizeLine) (p : P (.da (.str (cutS z lo hi))) o) : A3 B (rSlA K) (.da (.str z)) lo hi o P := fun F H θ σ ρ v k r Q q =>
  .inr ⟨z, rep_str r, hl, q _ _ F H θ o (Tw.refl F H θ) k (RepS.dat (Rep.str _)) p⟩
def cutD {α : Type} (xs : List α) (lo hi : Option Int) : List α := (xs.drop (HT.sIx xs.length 0 lo)).take (HT.sIx xs.length xs.length hi - HT.sIx xs.length 0 lo)
theorem sl_lst {ds : List D} {lo hi : Option Int} (p : P (.da (.lst (cutD ds lo hi))) o) : A3 B (rSlA K) (.da (.lst ds)) lo hi o P := fun F H θ σ ρ v k r Q q => by
  cases r with
  | @lst a xs _ ea rl =>
    refine .inl ⟨a, xs, rfl, SqL.of (k.fh a _ ea), fun l n => ?_⟩
    obtain ⟨t2, k2⟩ := k.put (u := .lst (cutV xs lo hi)) n
    have e : RepL F (cutV xs lo hi) (cutD ds lo hi) := by
      unfold cutV cutD
      rw [rl.len]
      exact (rl.drop _).take _
    exact q _ _ _ _ _ _ t2.w k2 (RepS.dat (Rep.lst upd_same (e.mono t2.ff))) p
end
end AB

set_option Elab.async false
set_option linter.all false
set_option maxRecDepth 100000
set_option maxHeartbeats 4000000
set_option autoImplicit false
namespace AB
open PySem L2 PySem.Spec PyProof.Rows He
/-! ### own exceptions whose __init__ says ApartError.__init__(self, text) and stores its arguments -/
/-- what the written part says of ApartError, at C -/
structure Apart (K : PySem.W.Frag) (mg : Str → Option Value) (C : Addr) : Prop where
  gC : mg "ApartError" = some (.ref C)
  ga : PySem.W.specialIn K (.ref C) "__getattribute__" = some (some (.builtin "type.__getattribute__"))
  rd : PySem.W.readsIn K C (.type "type") = true
  ini : PySem.W.findCls K (.ref C) (.type "type") "__init__" = some (.val (.builtin "ValueError.__init__"))
theorem pe_apI {X : Cx} {C : Addr} {ta : TA} {e : Expr} {es : List Expr} {p1 p2 pos : Pos} {pl : Sem Bool} (T : Apart X.K X.mg C) (hg : Gl X "ApartError") (ha : PA X (e :: es) ta)
    (hc : eval (.Call (.Attribute (.Name "ApartError" p1) "__init__" p2) (e :: es) [] pos) X.env = (do
      let ov ← eval (.Name "ApartError" p1) X.env
      standAt p2.atName
      let (f, first) ← holding [ov] (getMethod ov "__init__" pl)
      callWith pos f first (backTo pos (starEach (e :: es) X.env)) (backToKw pos (keywordEach [] X.env))) := by rfl)
    (he : starEach (e :: es) X.env = (false, eval e X.env) :: starEach es X.env := by rfl) (hpl : (backTo pos (starEach es X.env)).any (·.1) = false := by rfl) :
    PE X (.Call (.Attribute (.Name "ApartError" p1) "__init__" p2) (e :: es) [] pos) (tVeI X.K ta) := by
  constructor
  intro pins s σ H Q I h
  refine PySem.W.methodCall_KW (ld_glob I hg T.gC ?_) hc
  refine PySem.W.method_cls I.kIn T.ga (PySem.W.cls_value I.kIn T.rd T.ini (by decide +kernel) ?_)
  show wpAny _ _ (callWith pos (Value.builtin "ValueError.__init__") [] (backTo pos (starEach (e :: es) X.env)) []) _ _ _
  refine PyProof.Rows.callWith_method1 (thn (ha.run pos pins _ σ H _ (I.tok _) h) fun us s1 hh => ?_) he hpl
  obtain ⟨vs, H1, I1, r1, a, C', ws, ev, hl, T', ea, q⟩ := hh
  subst ev
  cases r1 with
  | @cons _ u0 _ ur ra rw' =>
    have e0 : u0 = Value.ref a := ra
    subst e0
    have hlen : ur.length ≤ sizeLine := by
      rw [← Paired.len rw', sizeLine_eq]
      omega
    exact oinit_ok T' I1 ea hlen fun s' J => ⟨.non, H1, J, rfl, q⟩
/-- fields by names, the last one first -/
def zipR {α : Type} : List Str → List α → List (Str × α) → List (Str × α)
  | f :: fs, y :: ys, acc => zipR fs ys ((f, y) :: acc)
  | _, _, acc => acc
structure ExF (K : PySem.W.Frag) (mg : Str → Option Value) (x : Str) (C fI : Addr) (fs : List Str) : Prop where
  gC : mg x = some (.ref C)
  ox : OexC K C
  iC : PySem.W.findIn K (.ref C) "__init__" = some (some (.ref fI))
  tI : PySem.W.typeIn K (.ref fI) = some (.type "function")
  no : ∀ f, f ∈ fs → PySem.W.findIn K (.ref C) f = some none
  xf : XfC K C
def spInit (C : Addr) (fs : List Str) : Sp := fun vs H Q _ => ∃ a ws, vs = .ref a :: ws ∧ ws.length = fs.length ∧ H a = some (exo a C none) ∧ ∀ d, H d = none → d ≠ a → Q .non (upd (upd H d (exd d (zipR fs ws []))) a (exo a C (some d)))
/-- the readings of such bodies: one field, two fields -/
theorem init1 {K : PySem.W.Frag} {C : Addr} {f m : Str} {vs : List V} {H : Hp} {Q : VK} {E : XK} {N : List Str} (hN : N.length = 2) (ox : OexC K C) (no : PySem.W.findIn K (.ref C) f = some none) (h : spInit C [f] vs H Q E) :
    tSeq (tDrop (tVeI K (tCons (tVar 0) (tCons (tC (.str m)) tNil)))) (tOst K f (tVar 0) (tVar 1)) { nx := fun _ H' => Q .non H', rt := Q } (L2.start N vs) H := by
  obtain ⟨a, ws, rfl, hl, ha, q⟩ := h
  match ws, hl with
  | [y], _ =>
    have e0 : (L2.start N [V.ref a, y])[0]? = some (some (V.ref a)) := rfl
    have e1 : (L2.start N [V.ref a, y])[1]? = some (some y) := rfl
    refine ⟨_, e0, a, C, [.str m], rfl, Nat.le_of_lt_succ (by show 1 < 1001; decide), ox, ha, ?_⟩
    exact ⟨_, e1, _, e0, a, C, rfl, ox, no, .inl ⟨ha, fun dx hn ne => q dx hn ne⟩⟩
theorem init2 {K : PySem.W.Frag} {C : Addr} {f g m : Str} {vs : List V} {H : Hp} {Q : VK} {E : XK} {N : List Str} (hN : N.length = 3) (ox : OexC K C) (no : PySem.W.findIn K (.ref C) f = some none) (no2 : PySem.W.findIn K (.ref C) g = some none) (h : spInit C [f, g] vs H Q E) :
    tSeq (tDrop (tVeI K (tCons (tVar 0) (tCons (tC (.str m)) tNil)))) (tSeq (tOst K f (tVar 0) (tVar 1)) (tOst K g (tVar 0) (tVar 2))) { nx := fun _ H' => Q .non H', rt := Q } (L2.start N vs) H := by
  obtain ⟨a, ws, rfl, hl, ha, q⟩ := h
  match ws, hl with
  | [y, z], _ =>
    have e0 : (L2.start N [V.ref a, y, z])[0]? = some (some (V.ref a)) := rfl
    have e1 : (L2.start N [V.ref a, y, z])[1]? = some (some y) := rfl
    have e2 : (L2.start N [V.ref a, y, z])[2]? = some (some z) := rfl
    refine ⟨_, e0, a, C, [.str m], rfl, Nat.le_of_lt_succ (by show 1 < 1001; decide), ox, ha, ?_⟩
    refine ⟨_, e1, _, e0, a, C, rfl, ox, no, .inl ⟨ha, fun dx hn ne => ?_⟩⟩
    refine ⟨_, e2, _, e0, a, C, rfl, ox, no2, .inr ⟨dx, [(f, y)], upd_same, ?_, (by show 1 ≤ 900; decide), ?_⟩⟩
    · rw [upd_ne ne]
      exact upd_same
    · have e : upd (upd (upd H dx (exd dx [(f, y)])) a (exo a C (some dx))) dx (exd dx [(g, z), (f, y)]) = upd (upd H dx (exd dx (zipR [f, g] [y, z] []))) a (exo a C (some dx)) := by
        funext b
        by_cases h1 : b = dx
        · subst h1
          rw [upd_same, upd_ne ne, upd_same]
          rfl
        · rw [upd_ne h1]
          by_cases h2 : b = a
          · rw [h2, upd_same, upd_same]
          · rw [upd_ne h2, upd_ne h2, upd_ne h1, upd_ne h1]
      show Q .non _
      rw [e]
      exact q dx hn ne
section
variable {B : Base} {ρ : R} {o : O} {D0 : AD}
theorem zipR_rep {F : Hp} : ∀ {fs : List Str} {vs : List V} {ds : List D} {acc : List (Str × V)} {acd : List (Str × D)}, RepL F vs ds → RepF F acc acd → RepF F (zipR fs vs acc) (zipR fs ds acd)
  | [], _, _, _, _, _, h => by unfold zipR; exact h
  | f :: fs, _, _, _, _, .nil, h => by unfold zipR; exact h
  | f :: fs, _, _, _, _, .cons r t, h => by
    unfold zipR
    exact zipR_rep t (.cons r h)
/-- raise C(e, ..) -/
theorem s_raise {C : Addr} {fs : List Str} {ta : TA} {W : WX} (h : AA B ta ρ o fun ss o1 => ∃ ds : List D, ss = ds.map Sl.da ∧ ds.length = fs.length ∧ ds.length ≤ 1000 ∧ AX B W ρ o1 C (zipR fs ds [])) :
    WS B (fun _ σ H => tMkO C (spInit C fs) [] ta σ H fun cls d H' => W cls d σ H') D0 ρ o := by
  intro F H θ σ k E hE
  refine h F H θ σ k _ fun vs ss F1 H1 θ1 o1 t1 k1 r1 p1 => ?_
  obtain ⟨ds, rfl, l1, l2, x⟩ := p1
  have rl := da_all r1
  have hl := rl.len
  refine ⟨by omega, fun a na => ⟨a, vs, by rw [List.append_nil], by omega, upd_same, fun d hd hne => ?_⟩⟩
  have nd : H1 d = none := by rwa [upd_ne hne] at hd
  refine ⟨rfl, d, zipR fs vs [], upd_same, ?_, nd, ?_⟩
  · rw [upd_ne hne]
    exact upd_same
  · obtain ⟨t2, k2⟩ := k1.put (u := .xd (zipR fs vs [])) nd
    have e : upd (del (upd (upd (upd H1 a (exo a C none)) d (exd d (zipR fs vs []))) a (exo a C (some d))) a) d (.xd (zipR fs vs [])) = upd H1 d (.xd (zipR fs vs [])) := by
      funext b
      by_cases h1 : b = d
      · rw [h1, upd_same, upd_same]
      · rw [upd_ne h1, upd_ne h1]
        by_cases h2 : b = a
        · rw [h2, del_same, na]
        · rw [del_ne h2, upd_ne h2, upd_ne h1, upd_ne h2]
    show W _ _ _ _
    rw [e]
    exact x _ _ _ _ d _ k2 upd_same (zipR_rep (rl.mono t2.ff) .nil)
end
/-- a class's facts as one Bool -/
def oexB (K : PySem.W.Frag) (C : Addr) : Bool := (match K.lookup C with
  | some ⟨.type "type", _, .cls ⟨_, _, .ref C' :: bm, _, _, true, _, _, _, _, false⟩, ⟨[_, _, _, _, some (.builtin "ValueError.__new__"), _]⟩⟩ => C' == C && PySem.HandSPX.refsVE bm
  | _ => false) && (decide (PySem.W.findIn K (.ref C) "__setattr__" = some (some (.builtin "object.__setattr__"))) && (decide (PySem.W.subIn K (.ref C) (.type "BaseException") = some true) && (decide (PySem.W.typeIn K (.ref C) = some (.type "type")) && PySem.W.keepIn K (.ref C))))
theorem oexB_ok {K : PySem.W.Frag} {C : Addr} (h : oexB K C = true) : OexC K C := by
  unfold oexB at h
  simp only [Bool.and_eq_true, decide_eq_true_eq] at h
  obtain ⟨h1, h2, h3, h4, h5⟩ := h
  refine ⟨?_, h2, h3, h4, h5⟩
  split at h1
  · rename_i dd nm bs C' bm N q sn sub ab col k0 k1 k2 k3 k5 hl
    simp only [Bool.and_eq_true, beq_iff_eq] at h1
    obtain ⟨e, h1⟩ := h1
    subst e
    exact ⟨nm, q, N, bs, bm, sn, sub, ab, col, dd, k0, k1, k2, k3, k5, hl, h1⟩
  · cases h1
def exfB (K : PySem.W.Frag) (x : Str) (fs : List Str) : Bool := oexB K (He.ga K x) && (decide (PySem.W.findIn K (.ref (He.ga K x)) "__init__" = some (some (.ref (He.ma K (He.ga K x) "__init__")))) && (decide (PySem.W.typeIn K (.ref (He.ma K (He.ga K x) "__init__")) = some (.type "function")) &&
  (fs.all (fun f => decide (PySem.W.findIn K (.ref (He.ga K x)) f = some none)) && (xfB K (He.ga K x) && (Fa.glo x).ok K))))
def apartB (K : PySem.W.Frag) : Bool := decide (PySem.W.specialIn K (.ref (He.ga K "ApartError")) "__getattribute__" = some (some (.builtin "type.__getattribute__"))) && (PySem.W.readsIn K (He.ga K "ApartError") (.type "type") &&
  ((match PySem.W.findCls K (.ref (He.ga K "ApartError")) (.type "type") "__init__" with
    | some (.val (.builtin "ValueError.__init__")) => true
    | _ => false) && (Fa.glo "ApartError").ok K))
end AB

set_option Elab.async false
set_option linter.all false
set_option maxRecDepth 100000
set_option maxHeartbeats 4000000
set_option autoImplicit false
namespace AB
open PySem L2 PySem.Spec PyProof.Rows He
section
variable {B : Base} {ρ : R} {o : O} {P : Sl → O → Prop} {K : PySem.W.Frag} {D0 : AD} {te : TE}
/-- a call to which all own objects are handed -/
theorem e_callA {C : Con} {t : TA} {W : WX} (h : AA B t ρ o fun ss o1 => C ss o1 P (fun C' fs o' => AX B W ρ o' C' fs)) : AE B (tCallS (SpC C) (WE W) t) ρ o P := by
  intro F H θ σ k Q q
  refine h F H θ σ k _ fun vs ss F1 H1 θ1 o1 t1 k1 r1 c => ?_
  refine ⟨F1, θ1, ss, o1, _, _, k1.self.slots ⟨by rw [List.length_map, List.length_map]; exact Paired.len r1, fun i s e => ?_⟩, c, fun v s F' H' θ' o' k' r p => ?_, fun C' dd fs ks F' H' θ' o' k' e r p => ?_⟩
  · rw [List.getElem?_map] at e
    cases q : ss[i]? with
    | none => rw [q] at e; cases e
    | some s' =>
      rw [q] at e
      have e' : s' = s := by simpa using e
      subst e'
      obtain ⟨v, h1, h2⟩ := r1.get q
      exact ⟨v, by rw [List.getElem?_map, h1]; rfl, h2⟩
  · exact q v s F' H' θ' o' (t1.trans k'.tr.w) ((k1.rebase k').slots (k1.sl.mono k'.tr.ff k'.tr.pre)) r p
  · exact p F' H' θ' σ dd ks ((k1.rebase k').slots (k1.sl.mono k'.tr.ff k'.tr.pre)) e r
/-! ### an own object of data comes to stay -/
theorem Ok.frz {F H : Hp} {θ : List Addr} {σ : L2.St} {j : Nat} {a : Addr} {u : HO} {w : OO} (k : Ok B F H θ σ ρ o) (hb : B.θ.length ≤ j) (ha : θ[j]? = some a) (ho : o[j]? = some w) (hw : w ≠ .gone) (hu : H a = some u) :
    Ok B (upd F a u) H θ σ ρ (o.set j .gone) ∧ Tw F H θ (upd F a u) H θ := by
  have fa := k.fr j a w ha ho hw
  have e := Ex.new (o := u) fa
  have nb : B.H a = none := by
    rcases k.tr.nt a (List.mem_of_getElem? ha) with q | q
    · exfalso
      obtain ⟨t, ht⟩ := k.tr.pre
      obtain ⟨i, hi, e'⟩ := List.getElem_of_mem q
      have h1 : θ[i]? = some a := by rw [ht, List.getElem?_append_left hi, List.getElem?_eq_getElem hi, e']
      obtain ⟨b1, b2⟩ := List.getElem?_eq_some_iff.mp h1
      obtain ⟨b3, b4⟩ := List.getElem?_eq_some_iff.mp ha
      have := (List.getElem_inj k.nd).mp (b2.trans b4.symm)
      omega
    · exact q
  refine ⟨⟨⟨k.tr.ff.trans e, k.tr.pre, k.tr.kp, k.tr.th, fun b v h => ?_, k.tr.nt⟩, fun b v h => ?_, by rw [List.length_set]; exact k.len, k.nd, fun i b v h1 h2 h3 => ?_, fun i b v h1 h2 => ?_, k.sl.mono e ⟨[], by simp⟩⟩, ⟨e, ⟨[], by simp⟩, fun _ _ h _ => h, fun _ h => h, fun _ h => .inl h, fun b v h h1 h2 => ?_⟩⟩
  · by_cases q : b = a
    · exact .inr (by rw [q]; exact nb)
    · rw [upd_ne q] at h; exact k.tr.nw b v h
  · by_cases q : b = a
    · rw [q, upd_same] at h; rw [q]; cases h; exact hu
    · rw [upd_ne q] at h; exact k.fh b v h
  · by_cases q : i = j
    · subst q
      rw [List.getElem?_set_self (List.getElem?_eq_some_iff.mp ho).1] at h2
      cases h2
      exact absurd rfl h3
    · rw [List.getElem?_set_ne (fun z => q z.symm)] at h2
      have hne : b ≠ a := fun z => by
        subst z
        obtain ⟨b1, b2⟩ := List.getElem?_eq_some_iff.mp h1
        obtain ⟨b3, b4⟩ := List.getElem?_eq_some_iff.mp ha
        exact q ((List.getElem_inj k.nd).mp (b2.trans b4.symm))
      rw [upd_ne hne]
      exact k.fr i b v h1 h2 h3
  · by_cases q : i = j
    · subst q
      rw [List.getElem?_set_self (List.getElem?_eq_some_iff.mp ho).1] at h2
      cases h2
      rw [ha] at h1
      cases h1
      exact ⟨u, hu⟩
    · rw [List.getElem?_set_ne (fun z => q z.symm)] at h2
      exact (k.ob i b v h1 h2).mono e ⟨[], by simp⟩
  · rw [upd_ne (fun z => h (by rw [z]; exact List.mem_of_getElem? ha))]
    exact h1
/-- data of own keys -/
theorem RepSK.data {F : Hp} {θ : List Addr} : ∀ {ks : List (Key × V)} {ds : List (Key × D)}, RepSK F θ ks (ds.map fun p => (p.1, Sl.da p.2)) → RepK F ks ds
  | [], [], _ => .nil
  | (_, _) :: _, (_, _) :: _, .cons ⟨e, r⟩ t => by
    dsimp only at e
    subst e
    exact .cons r (RepSK.data t)
theorem RepSF.data {F : Hp} {θ : List Addr} : ∀ {ks : List (Str × V)} {ds : List (Str × D)}, RepSF F θ ks (ds.map fun p => (p.1, Sl.da p.2)) → RepF F ks ds
  | [], [], _ => .nil
  | (_, _) :: _, (_, _) :: _, .cons ⟨e, r⟩ t => by
    dsimp only at e
    subst e
    exact .cons r (RepSF.data t)
inductive Frz : OO → D → Prop
  | lst (ds : List D) : Frz (.lst (ds.map Sl.da)) (.lst ds)
  | dic (ds : List (Key × D)) : Frz (.dic (ds.map fun p => (p.1, Sl.da p.2))) (.dic ds)
  | ins (C : Addr) (ds : List (Str × D)) : Frz (.ins C (ds.map fun p => (p.1, Sl.da p.2))) (.ins C ds)
theorem Ok.frzD {F H : Hp} {θ : List Addr} {σ : L2.St} {j : Nat} {w : OO} {d : D} (k : Ok B F H θ σ ρ o) (hb : B.θ.length ≤ j) (ho : o[j]? = some w) (f : Frz w d) :
    ∃ a F', θ[j]? = some a ∧ Ok B F' H θ σ ρ (o.set j .gone) ∧ Tw F H θ F' H θ ∧ Rep F' (.ref a) d := by
  cases f with
  | lst ds =>
    obtain ⟨a, ha, xs, h1, h2⟩ := k.own ho
    obtain ⟨k', t'⟩ := k.frz hb ha ho (by intro z; cases z) h1
    exact ⟨a, _, ha, k', t', Rep.lst upd_same ((da_all h2).mono t'.ff)⟩
  | dic ds =>
    obtain ⟨a, ha, xs, h1, h2⟩ := k.own ho
    obtain ⟨k', t'⟩ := k.frz hb ha ho (by intro z; cases z) h1
    exact ⟨a, _, ha, k', t', Rep.dic upd_same (RepK.mono t'.ff (RepSK.data h2))⟩
  | ins C ds =>
    obtain ⟨a, ha, dx, xs, h1, h2⟩ := k.own ho
    obtain ⟨k', t'⟩ := k.frz hb ha ho (by intro z; cases z) h1
    exact ⟨a, _, ha, k', t', Rep.ins upd_same (RepF.mono t'.ff (RepSF.data h2))⟩
theorem e_frz (h : AE B te ρ o fun s o1 => ∃ j w d, s = .ow j ∧ B.θ.length ≤ j ∧ o1[j]? = some w ∧ Frz w d ∧ P (.da d) (o1.set j .gone)) : AE B te ρ o P := fun F H θ σ k Q q =>
  h F H θ σ k Q fun v s F1 H1 θ1 o1 t1 k1 r1 p => by
    obtain ⟨j, w, d, rfl, hb, ho, f, p⟩ := p
    obtain ⟨a, F', ha, k', t', r'⟩ := k1.frzD hb ho f
    obtain ⟨a', rfl, ha'⟩ := r1
    rw [ha] at ha'
    cases ha'
    exact q _ _ F' H1 θ1 _ (t1.trans t') k' (RepS.dat r') p
theorem s_frz {t : TS} (i : Nat) {j : Nat} {w : OO} {d : D} (hi : ρ[i]? = some (some (.ow j))) (hb : B.θ.length ≤ j) (ho : o[j]? = some w) (f : Frz w d) (h : WS B t D0 (ρ.set i (some (.da d))) (o.set j .gone)) : WS B t D0 ρ o := fun F H θ σ k E hE => by
  obtain ⟨a, F', ha, k', t', r'⟩ := k.frzD hb ho f
  obtain ⟨v, h1, h2⟩ := k'.sl.at_ i _ hi
  obtain ⟨a', rfl, ha'⟩ := h2
  rw [ha] at ha'
  cases ha'
  refine h F' H θ σ (k'.slots ⟨by rw [List.length_set]; exact k'.sl.len, fun n s e => ?_⟩) E (hE.on t')
  by_cases q : n = i
  · subst q
    rw [List.getElem?_set_self (List.getElem?_eq_some_iff.mp hi).1] at e
    cases e
    exact ⟨_, h1, RepS.dat r'⟩
  · rw [List.getElem?_set_ne (fun z => q z.symm)] at e
    exact k'.sl.at_ n s e
/-! ### rules that were lacking -/
theorem ite_dec {p : Prop} {_ : Decidable p} {a b : Prop} (h1 : p → a) (h2 : ¬p → b) : if decide p = true then a else b := by
  by_cases h : p
  · simp only [h, decide_true, if_true]; exact h1 h
  · simp only [h, decide_false]; exact h2 h
theorem ite_ndec {p : Prop} {_ : Decidable p} {a b : Prop} (h1 : ¬p → a) (h2 : p → b) : if (!decide p) = true then a else b := by
  by_cases h : p
  · simp only [h, decide_true]; exact h2 h
  · simp only [h, decide_false]; exact h1 h
theorem ite_b {x : Bool} {a b : Prop} (h1 : x = true → a) (h2 : x = false → b) : if x = true then a else b := by
  cases x
  · exact h2 rfl
  · exact h1 rfl
theorem n_isi {x c : Sl} {b : Bool} (h : ∀ F H θ σ ρ v w, Ok B F H θ σ ρ o → RepS F θ v x → RepS F θ w c → ∃ t u, ClsV w u ∧ TyX K H v t ∧ PySem.W.kitOne K t u = some b) (p : P (.da (.bl b)) o) : AN B (rIsi K) [x, c] o P := fun F H θ σ ρ vs k r Q q => by
  cases r with
  | cons r1 r2 =>
    cases r2 with
    | cons r2 r3 =>
      cases r3
      obtain ⟨t, u, h1, h2, h3⟩ := h F H θ σ ρ _ _ k r1 r2
      exact ⟨_, _, t, u, b, rfl, h1, h2, h3, q _ _ F H θ o (Tw.refl F H θ) k (RepS.dat (Rep.bl b)) p⟩
/-- list + list, data -/
theorem o_addL {x y : Sl} {ds es : List D} (hx : LL o x (ds.map Sl.da)) (hy : LL o y (es.map Sl.da)) (hl : ds.length + es.length ≤ sizeLine) (p : P (.da (.lst (ds ++ es))) o) : A2 B rAddA x y o P := A2.or2 (A2.or2 (fun F H θ σ ρ v u k r1 r2 Q q => by
  obtain ⟨a, xs, rfl, h1, h2⟩ := hx.at k r1
  obtain ⟨b, ys, rfl, h3, h4⟩ := hy.at k r2
  have e1 := da_all h2
  have e2 := da_all h4
  refine ⟨a, b, xs, ys, rfl, rfl, h1, h3, ?_, fun l hn => ?_⟩
  · rw [e1.len, e2.len]; exact hl
  · obtain ⟨t2, k2⟩ := k.put (u := .lst (xs ++ ys)) hn
    exact q _ _ _ _ _ _ t2.w k2 (RepS.dat (Rep.lst upd_same ((e1.app e2).mono t2.ff))) p))
end
end AB

set_option Elab.async false
set_option linter.all false
set_option maxRecDepth 100000
set_option maxHeartbeats 4000000
set_option autoImplicit false
namespace AB
open PySem L2 PySem.Spec PyProof.Rows He
def W0 : WX := fun _ _ _ _ => False
theorem pe_gc {X : Cx} {x : Str} {v : V} {pos : Pos} (hg : Gl X x) (h : ∃ u, X.mg x = some u ∧ RelV v u) (hd : (x == ("__debug__" : Str)) = false := by decide) : PE X (.Name x pos) (tC v) := by
  obtain ⟨u, hm, r⟩ := h
  exact pe_glob hg hm r hd
def rSumA (K : PySem.W.Frag) : List V → Hp → VK → Prop := rSum K
theorem cr_sumA {X : Cx} (hc : X.calm = true) : CallR X (.builtin "sum") (rSumA X.K) := cr_sum hc
theorem n_sum {B : Base} {o : O} {P : Sl → O → Prop} {K : PySem.W.Frag} {x : Sl} {ns : List Int} (h : LL o x (ns.map fun i => Sl.da (.int i))) (p : P (.da (.int ns.sum)) o) : AN B (rSumA K) [x] o P := fun F H θ σ ρ vs k r Q q => by
  cases r with
  | cons r1 r2 =>
    cases r2
    obtain ⟨a, xs, rfl, h1, h2⟩ := h.at k r1
    rw [ints_of h2] at h1
    exact ⟨a, ns, rfl, SqL.of h1, q _ _ F H θ o (Tw.refl F H θ) k (RepS.dat (Rep.int _)) p⟩
/-- a def known by its contract -/
structure Cal (P : Program) (w : World) (K : PySem.W.Frag) (mg : Str → Option Value) (base : Heap) (k : Nat) (x : Str) (ps : List Str) (C : Con) : Prop where
  ex : ∃ f fd, FnOk P w K mg base (L2.CX P w) k f fd ps (SpC C) ∧ mg x = some (.ref f) ∧ PySem.W.keepIn K (.ref f) = true ∧ Binds K fd ps []
structure CalS (P : Program) (w : World) (K : PySem.W.Frag) (mg : Str → Option Value) (base : Heap) (k : Nat) (x : Str) (ps : List Str) (sp : Sp) : Prop where
  ex : ∃ f fd, FnOk P w K mg base (L2.CX P w) k f fd ps sp ∧ mg x = some (.ref f) ∧ PySem.W.keepIn K (.ref f) = true ∧ Binds K fd ps []
theorem pe_calS {X : Cx} {k j : Nat} {x : Str} {ps : List Str} {sp : Sp} {W : WX} {e : Expr} {es : List Expr} {t : TA} {p pos : Pos} (c : CalS X.prog X.w X.K X.mg X.base k x ps sp) (hr : Room j X.A) (hk : k ≤ j) (hg : Gl X x) (tk : Takes X W)
    (ha : PA X (e :: es) t) (hdb : (x == ("__debug__" : Str)) = false := by decide) (he : starEach (e :: es) X.env = (false, eval e X.env) :: starEach es X.env := by rfl) (hpl : (backTo pos (starEach es X.env)).any (·.1) = false := by rfl) :
    PE X (.Call (.Name x p) (e :: es) [] pos) (tCallS sp (WE W) t) := by
  obtain ⟨f, fd, F, hm, hk2, hb⟩ := c.ex
  exact pe_callS F (hr.mono hk) hg hm hk2 hb (passAt tk) ha hdb he hpl
theorem pe_cal {X : Cx} {k j : Nat} {x : Str} {ps : List Str} {C : Con} {W : WX} {e : Expr} {es : List Expr} {t : TA} {p pos : Pos} (c : Cal X.prog X.w X.K X.mg X.base k x ps C) (hr : Room j X.A) (hk : k ≤ j) (hg : Gl X x) (tk : Takes X W)
    (ha : PA X (e :: es) t) (hdb : (x == ("__debug__" : Str)) = false := by decide) (he : starEach (e :: es) X.env = (false, eval e X.env) :: starEach es X.env := by rfl) (hpl : (backTo pos (starEach es X.env)).any (·.1) = false := by rfl) :
    PE X (.Call (.Name x p) (e :: es) [] pos) (tCallS (SpC C) (WE W) t) := by
  obtain ⟨f, fd, F, hm, hk2, hb⟩ := c.ex
  exact pe_callS F (hr.mono hk) hg hm hk2 hb (passAt tk) ha hdb he hpl
/-- an own exception's __init__ -/
structure InitOk (P : Program) (w : World) (K : PySem.W.Frag) (mg : Str → Option Value) (base : Heap) (x : Str) (fs : List Str) : Prop where
  ex : ∃ fd ps, FnOk P w K mg base (L2.CX P w) 1 (ma K (ga K x) "__init__") fd ps (spInit (ga K x) fs) ∧ Binds K fd ps []
def tRaiseX (K : PySem.W.Frag) (x : Str) (fs : List Str) (W : WX) (ta : TA) : TS := fun _ σ H => tMkO (ga K x) (spInit (ga K x) fs) [] ta σ H fun cls d H' => W cls d σ H'
theorem ps_raiseX {X : Cx} {x : Str} {fs : List Str} {W : WX} {j : Nat} {e : Expr} {es : List Expr} {ta : TA} {p pos pos2 : Pos} (T : ExF X.K X.mg x (ga X.K x) (ma X.K (ga X.K x) "__init__") fs) (I : InitOk X.prog X.w X.K X.mg X.base x fs) (hr : Room j X.A) (tk : Takes X W) (ha : PA X (e :: es) ta)
    (hj : 2 ≤ j := by decide) (hc : X.calm = true := by rfl) (hg : Gl X x := by rfl) (hdb : (x == ("__debug__" : Str)) = false := by decide) (he : starEach (e :: es) X.env = (false, eval e X.env) :: starEach es X.env := by rfl) (hpl : (backTo pos (starEach es X.env)).any (·.1) = false := by rfl) :
    PS X (.Raise (some (.Call (.Name x p) (e :: es) [] pos)) none pos2) (tRaiseX X.K x fs W ta) := by
  obtain ⟨fd, ps, F, hb⟩ := I.ex
  exact ps_raise hc tk (pmk_oex T.ox T.iC T.tI F (hr.mono hj) hb .nil passL hg T.gC ha hdb he hpl)
theorem s_raiseX {B : Base} {ρ : R} {o : O} {D0 : AD} {K : PySem.W.Frag} {x : Str} {fs : List Str} {ta : TA} {W : WX} (h : AA B ta ρ o fun ss o1 => ∃ ds : List D, ss = ds.map Sl.da ∧ ds.length = fs.length ∧ ds.length ≤ 1000 ∧ AX B W ρ o1 (ga K x) (zipR fs ds [])) :
    WS B (tRaiseX K x fs W ta) D0 ρ o := s_raise h
/-- the def in a class's text -/
def initOf (s : Stmt) : Stmt := match s with
  | .ClassDef _ _ _ b _ _ _ _ _ _ _ => b.getD 0 (.Pass ⟨0, 0, 0, 0⟩)
  | _ => .Pass ⟨0, 0, 0, 0⟩
theorem init_len {C : Addr} {fs ps : List Str} (h : ps.length = fs.length + 1) : ∀ vs H Q E, spInit C fs vs H Q E → vs.length = ps.length := fun vs H Q E q => by
  obtain ⟨a, ws, rfl, hl, _⟩ := q
  rw [List.length_cons, hl, h]
/-- a def keeps its contract -/
theorem cal_of {P : Program} {w : World} {K : PySem.W.Frag} {mg : Str → Option Value} {base : Heap} {x : Str} {st : Stmt} {f : Addr} {fd : FuncData} {N ps : List Str} {k : Nat} {C : Con} {t : WX → TS} (F : Fun K x x st f fd) (S : FnScope N ps (defScope st)) (hm : mg x = some (.ref f)) (bd : Binds K fd ps [])
    (hl : ∀ ss o Rt Xt, C ss o Rt Xt → ss.length = ps.length)
    (dv : ∀ {cdv : Value} {A : Around} {outer : List Env} {s : Shared} {H : Hp} {E : XK}, Room k (A.deeper (envOfC x (defScope st) s.heap.objs.size f cdv)) → PSs (cxOf (L2.CX P w) P w K mg base N x (defScope st) f cdv A outer s H E) (defBody st) (t (fun cls d _ H => E cls d H)))
    (wf : ∀ B W ss o Rt Xt, B.θ.length = o.length → C ss o Rt Xt → (∀ ρ o C' fs, Xt C' fs o → AX B W ρ o C' fs) → WS B (t W) { nx := fun _ o => Rt (.da .non) o, rt := Rt } (ss.map some ++ List.replicate (N.length - ss.length) none) o) : Cal P w K mg base (k + 1) x ps C :=
  ⟨f, fd, Fun.okX F S (con_len hl) (fun cdv A outer s H vs Q E hr h => ⟨_, dv hr, con_run h fun B ss o Rt Xt hB c hX => wf B _ ss o Rt Xt hB c hX⟩), hm, F.kp, bd⟩
theorem exfB_ok {K : PySem.W.Frag} {h : Heap} {mg : Str → Option Value} (X : K.In h) (G : h.Ns mainGlobals mg) {x : Str} {fs : List Str} (c : exfB K x fs = true) : ExF K mg x (ga K x) (ma K (ga K x) "__init__") fs := by
  unfold exfB at c
  simp only [Bool.and_eq_true, decide_eq_true_eq, List.all_eq_true] at c
  obtain ⟨h1, h2, h3, h4, h5, h6⟩ := c
  exact ⟨glo_ok X G h6, oexB_ok h1, h2, h3, fun f hf => h4 f hf, xfB_ok h5⟩
theorem apartB_ok {K : PySem.W.Frag} {h : Heap} {mg : Str → Option Value} (X : K.In h) (G : h.Ns mainGlobals mg) (c : apartB K = true) : Apart K mg (ga K "ApartError") := by
  unfold apartB at c
  simp only [Bool.and_eq_true, decide_eq_true_eq] at c
  obtain ⟨h1, h2, h3, h4⟩ := c
  refine ⟨glo_ok X G h4, h1, h2, ?_⟩
  split at h3
  · assumption
  · cases h3
end AB

set_option Elab.async false
set_option linter.all false
set_option maxRecDepth 100000
set_option maxHeartbeats 4000000
set_option autoImplicit false
namespace AB
open PySem L2 PySem.Spec PyProof.Rows He
/-! ### frames, the purse -/
def Fp (o o' : O) : Prop := ∃ g, o' = o ++ g
theorem Fp.refl (o : O) : Fp o o := ⟨[], by simp⟩
theorem Fp.trans {a b c : O} (h : Fp a b) (h' : Fp b c) : Fp a c := by
  obtain ⟨g, rfl⟩ := h
  obtain ⟨g', rfl⟩ := h'
  exact ⟨g ++ g', by rw [List.append_assoc]⟩
theorem Fp.get {o o' : O} (h : Fp o o') {i : Nat} {u : OO} (e : o[i]? = some u) : o'[i]? = some u := by
  obtain ⟨g, rfl⟩ := h
  rw [List.getElem?_append_left (List.getElem?_eq_some_iff.mp e).1]
  exact e
def Pu (o : O) (j : Nat) : Prop := ∃ a b c : Int, o[j]? = some (.lst [.da (.int a), .da (.int b), .da (.int c)])
structure Fj (j : Nat) (o o' : O) : Prop where
  len : o.length ≤ o'.length
  get : ∀ i, i < o.length → i ≠ j → o'[i]? = o[i]?
  pu : Pu o' j
theorem Fj.refl {j : Nat} {o : O} (h : Pu o j) : Fj j o o := ⟨Nat.le_refl _, fun _ _ _ => rfl, h⟩
theorem Fj.trans {j : Nat} {a b c : O} (h : Fj j a b) (h' : Fj j b c) : Fj j a c :=
  ⟨Nat.le_trans h.len h'.len, fun i hi n => (h'.get i (Nat.lt_of_lt_of_le hi h.len) n).trans (h.get i hi n), h'.pu⟩
theorem Fj.at {j : Nat} {o o' : O} (h : Fj j o o') {i : Nat} {u : OO} (e : o[i]? = some u) (n : i ≠ j) : o'[i]? = some u := (h.get i (List.getElem?_eq_some_iff.mp e).1 n).trans e
theorem Pu.lt {o : O} {j : Nat} (h : Pu o j) : j < o.length := by
  obtain ⟨a, b, c, h⟩ := h
  exact (List.getElem?_eq_some_iff.mp h).1
theorem Fj.app {j : Nat} {o : O} (h : Pu o j) (g : O) : Fj j o (o ++ g) := by
  refine ⟨by simp, fun i hi _ => List.getElem?_append_left hi, ?_⟩
  obtain ⟨a, b, c, h⟩ := h
  exact ⟨a, b, c, by rw [List.getElem?_append_left (List.getElem?_eq_some_iff.mp h).1]; exact h⟩
/-- a change beyond the objects that were -/
theorem Fj.set {j i : Nat} {o o1 : O} {u : OO} (h : Fj j o o1) (hj : j < o.length) (hi : o.length ≤ i) : Fj j o (o1.set i u) := by
  refine ⟨by rw [List.length_set]; exact h.len, fun k hk n => ?_, ?_⟩
  · rw [List.getElem?_set_ne (by omega)]
    exact h.get k hk n
  · obtain ⟨a, b, c, q⟩ := h.pu
    exact ⟨a, b, c, by rw [List.getElem?_set_ne (by omega)]; exact q⟩
theorem Fj.add {j : Nat} {o o1 : O} (h : Fj j o o1) (g : O) : Fj j o (o1 ++ g) := h.trans (Fj.app h.pu g)
theorem Fp.set {i : Nat} {o o1 : O} {u : OO} (h : Fp o o1) (hi : o.length ≤ i) : Fp o (o1.set i u) := by
  obtain ⟨g, rfl⟩ := h
  exact ⟨g.set (i - o.length) u, by rw [List.set_append_right _ _ hi]⟩
theorem Fp.add {o o1 : O} (h : Fp o o1) (g : O) : Fp o (o1 ++ g) := h.trans ⟨g, rfl⟩
theorem Fp.len {o o1 : O} (h : Fp o o1) : o.length ≤ o1.length := by
  obtain ⟨g, rfl⟩ := h
  simp
theorem Fj.ofFp {j : Nat} {o o1 o2 : O} (h : Fj j o o1) (h' : Fp o1 o2) : Fj j o o2 := by
  obtain ⟨g, rfl⟩ := h'
  exact h.add g
theorem get_new {o : O} {u : OO} : (o ++ [u])[o.length]? = some u := by simp
theorem get_set {o : O} {i : Nat} {u : OO} (h : i < o.length) : (o.set i u)[i]? = some u := List.getElem?_set_self h
theorem LL.fp {o o' : O} {x : Sl} {ss : List Sl} (h : LL o x ss) (f : Fp o o') : LL o' x ss := by
  cases x with
  | ow j => exact f.get h
  | da d => cases d <;> exact h
/-! ### draws -/
def c_draw : Con := fun ss o Rt _ => ∃ (j : Nat) (n : Int), ss = [.ow j, .da (.int n)] ∧ 0 < n ∧ n < 2 ^ 62 ∧ Pu o j ∧ ∀ (r : Int) o', 0 ≤ r → r < n → o'.length = o.length → Fj j o o' → Rt (.da (.int r)) o'
/-! ### data that equal themselves -/
mutual
theorem eqv_refl : ∀ d : PyData, d.plain = true → PyData.eqv d d = true
  | .none, _ => rfl
  | .bool b, _ => by cases b <;> rfl
  | .int i, _ => by simp [PyData.eqv]
  | .str x, _ => by simp [PyData.eqv]
  | .list l, h => by
    unfold PyData.eqv
    exact eqvAll_refl l (by simpa [PyData.plain] using h)
  | .tuple l, h => by
    unfold PyData.eqv
    exact eqvAll_refl l (by simpa [PyData.plain] using h)
  | .dict _, h => by simp [PyData.plain] at h
theorem eqvAll_refl : ∀ l : List PyData, PyData.plainAll l = true → PyData.eqvAll l l = true
  | [], _ => rfl
  | d :: r, h => by
    unfold PyData.plainAll at h
    simp only [Bool.and_eq_true] at h
    unfold PyData.eqvAll
    rw [eqv_refl d h.1, eqvAll_refl r h.2]
    rfl
end
theorem eqv_str {x y : Str} : PyData.eqv (.str x) (.str y) = decide (x = y) := by simp [PyData.eqv, Bool.beq_eq_decide_eq]
theorem ite_tt {a b : Prop} (h : a) : if true = true then a else b := h
theorem ite_ff {a b : Prop} (h : b) : if false = true then a else b := by
  rw [if_neg (by decide)]
  exact h
theorem ite_ntt {a b : Prop} (h : b) : if (!true) = true then a else b := ite_ff h
theorem ite_nff {a b : Prop} (h : a) : if (!false) = true then a else b := ite_tt h
section
variable {B : Base} {ρ : R} {o : O} {P : Sl → O → Prop} {K : PySem.W.Frag} {D0 : AD} {tb : TS} {g : TG}
theorem kit_same {n : String} : PySem.W.kitOne K (.type n) (.type n) = some true := by
  unfold PySem.W.kitOne
  rw [if_pos (beq_self_eq_true _)]
theorem n_isiS {w : Str} (p : P (.da (.bl true)) o) : AN B (rIsi K) [.da (.str w), .da (.raw (.ty "str"))] o P := n_isi (fun F H θ σ ρ v u k r1 r2 => by
  cases r1
  cases r2
  exact ⟨_, _, .ty _, .base (.str _), kit_same⟩) p
theorem n_isiL {ds : List D} (p : P (.da (.bl true)) o) : AN B (rIsi K) [.da (.lst ds), .da (.raw (.ty "list"))] o P := n_isi (fun F H θ σ ρ v u k r1 r2 => by
  cases r1 with
  | lst e _ =>
    cases r2
    exact ⟨_, _, .ty _, .base (.lst (k.fh _ _ e)), kit_same⟩) p
theorem n_isiT {ds : List D} (p : P (.da (.bl true)) o) : AN B (rIsi K) [.da (.tup ds), .da (.raw (.ty "tuple"))] o P := n_isi (fun F H θ σ ρ v u k r1 r2 => by
  cases r1 with
  | tup e _ =>
    cases r2
    exact ⟨_, _, .ty _, .base (.tup (k.fh _ _ e)), kit_same⟩) p
/-- over the signs of a text -/
theorem s_forS {tl : TE} (h : AE B tl ρ o fun x o1 => ∃ z : Str, x = .da (.str z) ∧ ∃ Pv : Nat → R → O → Prop, Pv 0 ρ o1 ∧
    (∀ (i : Nat) c ρ' o', z.cps.toList[i]? = some c → Pv i ρ' o' → AG B g (.da (.str ⟨#[c]⟩)) ρ' o' fun ρ2 o2 => WS B tb { D0 with nx := Pv (i + 1), ct := Pv (i + 1), bk := D0.nx } ρ2 o2) ∧ ∀ ρ' o', Pv z.length ρ' o' → D0.nx ρ' o') :
    WS B (tFor (iSq K tl) g tb) D0 ρ o := by
  intro F H θ σ k E hE
  refine h F H θ σ k _ fun v x F1 H1 θ1 o1 t1 k1 r1 p1 => ?_
  obtain ⟨z, rfl, Pv, h0, hs, hd⟩ := p1
  have e0 := rep_str r1
  subst e0
  refine .inr (.inr ⟨z, rfl, ?_⟩)
  refine ⟨fun i m σ' H' => m = z.length - i ∧ i ≤ z.length ∧ ∃ F' θ' ρ' o', Tw F1 H1 θ1 F' H' θ' ∧ Ok B F' H' θ' σ' ρ' o' ∧ Pv i ρ' o', ⟨_, rfl, Nat.zero_le _, F1, θ1, ρ, o1, Tw.refl F1 H1 θ1, k1, h0⟩, ?_⟩
  intro i m σ' H' hw
  obtain ⟨rfl, hi, F', θ', ρ', o', t', k', p⟩ := hw
  by_cases hlt : i < z.length
  · refine .inr ⟨hlt, fun σ2 H2 => ∃ F2 θ2 ρ2 o2, Tw F1 H1 θ1 F2 H2 θ2 ∧ Ok B F2 H2 θ2 σ2 ρ2 o2 ∧ Pv (i + 1) ρ2 o2, fun σ2 H2 n => ⟨_, by omega, rfl, hlt, n⟩, fun y H'' q => ?_⟩
    obtain ⟨e1, c, hc, rfl⟩ := q
    subst e1
    refine hs i c ρ' o' (by rw [Array.getElem?_toList]; exact hc) p F' H'' θ' σ' _ k' (RepS.dat (Rep.str _)) _ fun F2 H2 θ2 σ2 ρ2 o2 t2 k2 p2 => ?_
    refine p2 F2 H2 θ2 σ2 k2 _ ⟨fun F3 H3 θ3 σ3 ρ3 o3 t3 k3 p3 => ⟨F3, θ3, ρ3, o3, (t'.trans t2).trans t3, k3, p3⟩, ?_, ?_, fun F3 H3 θ3 σ3 ρ3 o3 t3 k3 p3 => ⟨F3, θ3, ρ3, o3, (t'.trans t2).trans t3, k3, p3⟩⟩
    · exact fun F3 H3 θ3 σ3 ρ3 o3 v s t3 k3 r3 p3 => hE.rt F3 H3 θ3 σ3 ρ3 o3 v s (((t1.trans t').trans t2).trans t3) k3 r3 p3
    · exact fun F3 H3 θ3 σ3 ρ3 o3 t3 k3 p3 => hE.nx F3 H3 θ3 σ3 ρ3 o3 (((t1.trans t').trans t2).trans t3) k3 p3
  · have e : i = z.length := by omega
    subst e
    exact .inl ⟨Nat.le_refl _, hE.nx F' H' θ' σ' ρ' o' (t1.trans t') k' (hd ρ' o' p)⟩
/-- c in a text, c a sign -/
theorem o_notInC {c : Nat} {z : Str} (p : P (.da (.bl (!decide (c ∈ z.cps.toList)))) o) : A2 B (rNotInA K) (.da (.str ⟨#[c]⟩)) (.da (.str z)) o P := A2.or2 (A2.or2 (
  A2.of (z := .da (.bl (!decide (c ∈ z.cps.toList)))) (fun F H θ σ ρ v u k r1 r2 Q q => ⟨c, z, rep_str r1, rep_str r2, q _ (Rep.bl _)⟩) p))
theorem o_inC {c : Nat} {z : Str} (p : P (.da (.bl (decide (c ∈ z.cps.toList)))) o) : A2 B (rInA K) (.da (.str ⟨#[c]⟩)) (.da (.str z)) o P := A2.or2 (A2.or2 (
  A2.of (z := .da (.bl (decide (c ∈ z.cps.toList)))) (fun F H θ σ ρ v u k r1 r2 Q q => ⟨c, z, rep_str r1, rep_str r2, q _ (Rep.bl _)⟩) p))
end
theorem pyL_len : ∀ l : List D, (D.pyL l).length = l.length
  | [] => rfl
  | d :: r => by unfold D.pyL; rw [List.length_cons, List.length_cons, pyL_len r]
end AB

set_option Elab.async false
set_option linter.all false
set_option maxRecDepth 100000
set_option maxHeartbeats 4000000
set_option autoImplicit false
namespace AB
open PySem L2 PySem.Spec PyProof.Rows He
/-! ### instances and methods, the wish about exceptions at the slots -/
section
variable {X : Cx} {k : Nat} {fI C : Addr} {fd : FuncData} {ps : List Str} {sp : Sp} {W : WX}
/-- C(..) -/
def tMkI (C : Addr) (sp : Sp) (W : WX) (ta : TA) : TE := fun σ H Q => ta σ H fun vs H1 => ∀ x dx, H1 x = none → H1 dx = none → dx ≠ x →
  sp (.ref x :: vs) (upd (upd H1 dx (.own x)) x (.ins C dx [])) (fun v H2 => v = .non ∧ Q (.ref x) H2) (WE W σ)
theorem made_runs {pins : List (Addr × Obj)} {σ : L2.St} {H : Hp} {s : Shared} {Q : VK} {us : List Value} {vs : List V} (M : Mk X.K C fI) (F : FnOk X.prog X.w X.K X.mg X.base (L2.CX X.prog X.w) k fI fd ps sp)
    (hr : Room (k + 1) X.A) (bd : Binds X.K fd ps []) (tk : Takes X W) (I : Inv X pins σ H s) (r : Vals vs us)
    (h : ∀ x dx, H x = none → H dx = none → dx ≠ x → sp (.ref x :: vs) (upd (upd H dx (.own x)) x (.ins C dx [])) (fun v H2 => v = .non ∧ Q (.ref x) H2) (WE W σ)) :
    wpAny (model X.prog X.w) X.A (call (.ref C) us) (EP X pins σ Q) X.xe s := by
  have z1 := I.hok.fresh (Nat.le_succ s.heap.objs.size)
  have z2 := I.hok.fresh (Nat.le_refl s.heap.objs.size)
  have hsp := h (s.heap.objs.size + 1) s.heap.objs.size z1 z2 (Nat.ne_of_lt (Nat.lt_succ_self _))
  have J := Inv.made (C := C) I
  have rr : Vals (V.ref (s.heap.objs.size + 1) :: vs) (Value.ref (s.heap.objs.size + 1) :: us) := .cons rfl r
  have ln : (Value.ref (s.heap.objs.size + 1) :: us).length = ps.length := rr.length.symm.trans (F.len _ _ _ _ hsp)
  have bb := bd _ (Value.ref (s.heap.objs.size + 1) :: us) J.kIn (by rw [List.append_nil]; exact ln)
  rw [List.append_nil] at bb
  have go := F.run _ X.stack _ _ ⟨Value.ref (s.heap.objs.size + 1) :: us, []⟩ _ _ _ (WE W σ) (hr.make C us []) (J.env0.make C us []) bb rr hsp
  refine wpAny_call (make_map (f := fI) I.kIn M.makes M.init (beq_iff_eq.mp M.fn) (codeAny_mono go fun res s' q => ?_))
  match res, q with
  | .error u, q => exact passAt tk σ pins _ _ u s' J q
  | .ok (.ret u), q =>
    obtain ⟨v, H', J', rv, ev, q3⟩ := J.after q
    subst ev
    exact ⟨rv, V.ref (s.heap.objs.size + 1), H', J', rfl, q3⟩
  | .ok .next, q => exact q.elim
  | .ok .brk, q => exact q.elim
  | .ok .cont, q => exact q.elim
theorem pe_mkI {x : Str} {e : Expr} {es : List Expr} {ta : TA} {p pos : Pos} (M : Mk X.K C fI) (F : FnOk X.prog X.w X.K X.mg X.base (L2.CX X.prog X.w) k fI fd ps sp) (hr : Room (k + 1) X.A) (hg : Gl X x) (hm : X.mg x = some (.ref C)) (bd : Binds X.K fd ps []) (tk : Takes X W) (ha : PA X (e :: es) ta)
    (hdb : (x == ("__debug__" : Str)) = false := by decide) (he : starEach (e :: es) X.env = (false, eval e X.env) :: starEach es X.env := by rfl) (hpl : (backTo pos (starEach es X.env)).any (·.1) = false := by rfl) :
    PE X (.Call (.Name x p) (e :: es) [] pos) (tMkI C sp W ta) := by
  constructor
  intro pins s σ H Q I h
  refine wpAny_Call_Name_kw (ld_glob I hg hm ?_ hdb)
  exact PySem.W.callWith_K (h₀ := X.base) I.ok.mod.kin M.kp (thn (ha.run pos pins s σ H _ I h) fun us s1 z => by
    obtain ⟨vs, H1, J, r, q⟩ := z
    exact ⟨J.kIn, made_runs M F hr bd tk J r q⟩) he hpl
/-- o.m(..) -/
def tMeI (C : Addr) (m : Str) (sp : Sp) (W : WX) (to : TE) (ta : TA) : TE := fun σ H Q => to σ H fun x H1 => ∃ a dx fs, x = .ref a ∧ H1 a = some (.ins C dx fs) ∧ fs.lookup m = none ∧ ta σ H1 fun vs H2 => sp (x :: vs) H2 Q (WE W σ)
theorem pe_meI {m : Str} {o e : Expr} {es : List Expr} {to : TE} {ta : TA} {apos pos : Pos} {pl : Sem Bool} (ho : PE X o to) (c : L2.Cls X.K C) (hm : Meth X.K C m fI) (F : FnOk X.prog X.w X.K X.mg X.base (L2.CX X.prog X.w) k fI fd ps sp) (hr : Room k X.A) (bd : Binds X.K fd ps []) (tk : Takes X W) (ha : PA X (e :: es) ta)
    (hst : starEach (e :: es) X.env = (false, eval e X.env) :: starEach es X.env := by rfl) (hpl : (backTo pos (starEach es X.env)).any (·.1) = false := by rfl)
    (ht : eval (.Call (.Attribute o m apos) (e :: es) [] pos) X.env = (do
      let ov ← eval o X.env
      standAt apos.atName
      let (g, first) ← holding [ov] (getMethod ov m pl)
      callWith pos g first (backTo pos (starEach (e :: es) X.env)) (backToKw pos (keywordEach [] X.env))) := by rfl) :
    PE X (.Call (.Attribute o m apos) (e :: es) [] pos) (tMeI C m sp W to ta) := by
  constructor
  intro pins s σ H Q I h
  refine PySem.W.methodCall_KW (pl := pl) (thn (ho.run pins s σ H _ I h) fun u s1 z => ?_) ht
  obtain ⟨x, H1, J, rx, a, dx, fs, ex, ea, l, q⟩ := z
  subst ex
  have eu : u = Value.ref a := rx
  subst eu
  refine getmeth_ok J ea c hm l (PySem.W.callWith_K (first := [.ref a]) (h₀ := X.base) J.ok.mod.kin hm.kp (thn (ha.run pos pins s1 σ H1 _ J q) fun us s2 z => ?_) hst hpl)
  obtain ⟨vs, H2, J2, r, q2⟩ := z
  exact ⟨J2.kIn, run_fnS (us := .ref a :: us) (vs := .ref a :: vs) F hr bd (passAt tk σ) J2 (.cons rfl r) q2⟩
theorem pe_meI0 {m : Str} {o : Expr} {to : TE} {apos pos : Pos} {pl : Sem Bool} (ho : PE X o to) (c : L2.Cls X.K C) (hm : Meth X.K C m fI) (F : FnOk X.prog X.w X.K X.mg X.base (L2.CX X.prog X.w) k fI fd ps sp) (hr : Room k X.A) (bd : Binds X.K fd ps []) (tk : Takes X W)
    (ht : eval (.Call (.Attribute o m apos) [] [] pos) X.env = (do
      let ov ← eval o X.env
      standAt apos.atName
      let (g, first) ← holding [ov] (getMethod ov m pl)
      callWith pos g first (backTo pos (starEach [] X.env)) (backToKw pos (keywordEach [] X.env))) := by rfl) :
    PE X (.Call (.Attribute o m apos) [] [] pos) (tMeI C m sp W to tNil) := by
  constructor
  intro pins s σ H Q I h
  refine PySem.W.methodCall_KW (pl := pl) (thn (ho.run pins s σ H _ I h) fun u s1 z => ?_) ht
  obtain ⟨x, H1, J, rx, a, dx, fs, ex, ea, l, q⟩ := z
  subst ex
  have eu : u = Value.ref a := rx
  subst eu
  exact getmeth_ok J ea c hm l (PySem.W.callWith_K0 (first := [.ref a]) J.kIn hm.kp (run_fnS (us := [.ref a]) (vs := [.ref a]) F hr bd (passAt tk σ) J (.cons rfl .nil) q))
end
end AB

set_option Elab.async false
set_option linter.all false
set_option maxRecDepth 100000
set_option maxHeartbeats 4000000
set_option autoImplicit false
namespace AB
open PySem L2 PySem.Spec PyProof.Rows He
section
variable {B : Base} {ρ : R} {o : O} {P : Sl → O → Prop} {K : PySem.W.Frag} {D0 : AD} {to te : TE}
theorem Ok.wider {F H H1 : Hp} {θ : List Addr} {σ : L2.St} (k : Ok B F H θ σ ρ o) (e : Ex H H1) : Ok B F H1 θ σ ρ o :=
  ⟨⟨k.tr.ff, k.tr.pre, fun a w h n => e a w (k.tr.kp a w h n), fun a h => k.tr.th a (by
    cases q : H a with
    | none => rfl
    | some w => rw [e a w q] at h; cases h), k.tr.nw, k.tr.nt⟩, fun a w h => e a w (k.fh a w h), k.len, k.nd, k.fr, fun j a u h1 h2 => (k.ob j a u h1 h2).at fun w q => e a w q, k.sl⟩
theorem Tw.wider {F H H1 : Hp} {θ : List Addr} (e : Ex H H1) : Tw F H θ F H1 θ :=
  ⟨Ex.refl F, ⟨[], by simp⟩, fun a w h _ => e a w h, fun a h => (by
    cases q : H a with
    | none => rfl
    | some w => rw [e a w q] at h; cases h), fun _ h => .inl h, fun _ _ _ h _ => h⟩
/-- the callee's promise over all own objects -/
theorem callA {C : Con} {W : WX} {F H : Hp} {θ : List Addr} {σ : L2.St} {vs : List V} {ss : List Sl} {Q : VK} (k : Ok B F H θ σ ρ o) (r : RepSL F θ vs ss) (c : C ss o P (fun C' fs o' => AX B W ρ o' C' fs))
    (q : ∀ v s F' H' θ' o', Tw F H θ F' H' θ' → Ok B F' H' θ' σ ρ o' → RepS F' θ' v s → P s o' → Q v H') : SpC C vs H Q (WE W σ) := by
  refine ⟨F, θ, ss, o, _, _, k.self.slots ⟨by rw [List.length_map, List.length_map]; exact Paired.len r, fun i s e => ?_⟩, c, fun v s F' H' θ' o' k' r p => ?_, fun C' dd fs ks F' H' θ' o' k' e r p => ?_⟩
  · rw [List.getElem?_map] at e
    obtain ⟨s', h1, e'⟩ := Option.map_eq_some_iff.mp e
    cases e'
    obtain ⟨v, h2, h3⟩ := r.get h1
    exact ⟨v, by rw [List.getElem?_map, h2]; rfl, h3⟩
  · exact q v s F' H' θ' o' k'.tr.w ((k.rebase k').slots (k.sl.mono k'.tr.ff k'.tr.pre)) r p
  · exact p F' H' θ' σ dd ks ((k.rebase k').slots (k.sl.mono k'.tr.ff k'.tr.pre)) e r
/-- C(..): an own instance is laid, __init__ is called on it -/
theorem e_mkI {Cc : Addr} {C : Con} {ta : TA} {W : WX} (h : AA B ta ρ o fun ss o1 => C (.ow o1.length :: ss) (o1 ++ [.ins Cc []]) (fun s o' => s = .da .non ∧ P (.ow o1.length) o') (fun C' fs o' => AX B W ρ o' C' fs)) : AE B (tMkI Cc (SpC C) W ta) ρ o P := by
  intro F H θ σ k Q q
  refine h F H θ σ k _ fun vs ss F1 H1 θ1 o1 t1 k1 r1 c => ?_
  intro x dx hx hdx hne
  have k2 := k1.wider (Ex.new (o := HO.own x) hdx)
  have hx2 : upd H1 dx (.own x) x = none := by rw [upd_ne (Ne.symm hne)]; exact hx
  obtain ⟨t3, k3⟩ := k2.lay (u := .ins Cc dx []) (w := .ins Cc []) hx2 ⟨dx, [], upd_same, .nil⟩
  have at_ : (θ1 ++ [x])[o1.length]? = some x := by rw [← k1.len]; simp
  refine callA (vs := .ref x :: vs) k3 (.cons (RepS.own at_) (RepSL.mono (Ex.refl _) ⟨[x], rfl⟩ r1)) c fun v s F' H' θ' o' t4 k4 r4 p => ?_
  obtain ⟨rfl, p⟩ := p
  refine ⟨rep_non r4, q _ _ F' H' θ' o' (t1.trans ((Tw.wider (Ex.new hdx)).trans (t3.w.trans t4))) k4 (RepS.own ?_) p⟩
  obtain ⟨tt, ht⟩ := t4.pre
  rw [ht, List.getElem?_append_left (List.getElem?_eq_some_iff.mp at_).1]
  exact at_
/-- what stands at a value: an instance, own or data -/
def InsV (o : O) : Sl → Addr → List (Str × Sl) → Prop
  | .ow j, C, l => o[j]? = some (.ins C l)
  | .da (.ins C' ds), C, l => C' = C ∧ l = ds.map fun p => (p.1, Sl.da p.2)
  | _, _, _ => False
theorem RepF.sl {F : Hp} {θ : List Addr} : ∀ {fs : List (Str × V)} {ds : List (Str × D)}, RepF F fs ds → RepSF F θ fs (ds.map fun p => (p.1, Sl.da p.2))
  | _, _, .nil => .nil
  | _, _, .cons h r => .cons ⟨rfl, h⟩ (RepF.sl r)
theorem InsV.at {F H : Hp} {θ : List Addr} {σ : L2.St} {v : V} {s : Sl} {C : Addr} {l : List (Str × Sl)} (h : InsV o s C l) (k : Ok B F H θ σ ρ o) (r : RepS F θ v s) : ∃ a dx fs, v = .ref a ∧ H a = some (.ins C dx fs) ∧ RepSF F θ fs l := by
  cases s with
  | ow j =>
    obtain ⟨a, rfl, ha⟩ := r
    obtain ⟨b, hb, dx, fs, h1, h2⟩ := k.own h
    rw [ha] at hb
    cases hb
    exact ⟨a, dx, fs, rfl, h1, h2⟩
  | da d =>
    cases d with
    | ins C' ds =>
      obtain ⟨rfl, rfl⟩ := h
      cases r with
      | @ins a C dx fs _ e rf => exact ⟨a, dx, fs, rfl, k.fh _ _ e, RepF.sl rf⟩
    | _ => exact h.elim
theorem RepSF.look {F : Hp} {θ : List Addr} {f : Str} : ∀ {fs : List (Str × V)} {l : List (Str × Sl)}, RepSF F θ fs l → (∀ s, l.lookup f = some s → ∃ v, fs.lookup f = some v ∧ RepS F θ v s) ∧ (l.lookup f = none → fs.lookup f = none)
  | [], [], .nil => ⟨fun s e => (by cases e), fun _ => rfl⟩
  | (g, v) :: fs, (g', s') :: l, .cons ⟨e0, h⟩ r => by
    dsimp only at e0 h
    subst e0
    obtain ⟨i1, i2⟩ := RepSF.look (f := f) r
    by_cases q : f = g
    · subst q
      simp only [List.lookup, beq_self_eq_true]
      exact ⟨fun s e => (by cases e; exact ⟨v, rfl, h⟩), fun e => (by cases e)⟩
    · have qb : (f == g) = false := by simpa using q
      simp only [List.lookup, qb]
      exact ⟨i1, i2⟩
/-- o.m(..) -/
theorem e_meI {Cc : Addr} {m : Str} {C : Con} {ta : TA} {W : WX} (h : AE B to ρ o fun x o1 => ∃ l, InsV o1 x Cc l ∧ l.lookup m = none ∧ AA B ta ρ o1 fun ss o2 => C (x :: ss) o2 P (fun C' fs o' => AX B W ρ o' C' fs)) : AE B (tMeI Cc m (SpC C) W to ta) ρ o P := by
  intro F H θ σ k Q q
  refine h F H θ σ k _ fun v x F1 H1 θ1 o1 t1 k1 r1 p => ?_
  obtain ⟨l, hi, hl, ha⟩ := p
  obtain ⟨a, dx, fs, rfl, h1, h2⟩ := hi.at k1 r1
  refine ⟨a, dx, fs, rfl, h1, (RepSF.look h2).2 hl, ha F1 H1 θ1 σ k1 _ fun vs ss F2 H2 θ2 o2 t2 k2 r2 c => ?_⟩
  exact callA (vs := .ref a :: vs) k2 (.cons (r1.mono t2.ff t2.pre) r2) c fun w s F' H' θ' o' t3 k3 r3 p3 => q w s F' H' θ' o' ((t1.trans t2).trans t3) k3 r3 p3
/-- o.f -/
theorem e_fld {f : Str} (h : AE B to ρ o fun x o1 => ∃ C l s, InsV o1 x C l ∧ L2.Cls K C ∧ NoAttr K C f ∧ l.lookup f = some s ∧ P s o1) : AE B (tFld K to f) ρ o P := by
  intro F H θ σ k Q q
  refine h F H θ σ k _ fun v x F1 H1 θ1 o1 t1 k1 r1 p => ?_
  obtain ⟨C, l, s, hi, hc, hn, hl, p⟩ := p
  obtain ⟨a, dx, fs, rfl, h1, h2⟩ := hi.at k1 r1
  obtain ⟨w, e1, e2⟩ := (RepSF.look h2).1 s hl
  exact ⟨a, C, dx, fs, w, rfl, h1, hc, hn, e1, q w s F1 H1 θ1 o1 t1 k1 e2 p⟩
/-- o.f = e -/
def putG (f : Str) (v : Sl) : List (Str × Sl) → List (Str × Sl)
  | [] => [(f, v)]
  | (g, x) :: r => if g = f then (g, v) :: r else (g, x) :: putG f v r
theorem RepSF.put {F : Hp} {θ : List Addr} {f : Str} {v : V} {s : Sl} (hv : RepS F θ v s) : ∀ {fs : List (Str × V)} {l : List (Str × Sl)}, RepSF F θ fs l → RepSF F θ (putF f v fs) (putG f s l)
  | [], [], .nil => .cons ⟨rfl, hv⟩ .nil
  | (g, w) :: fs, (g', s') :: l, .cons ⟨e0, h⟩ r => by
    dsimp only at e0 h
    subst e0
    unfold putF putG
    split
    · exact .cons ⟨rfl, hv⟩ r
    · exact .cons ⟨rfl, h⟩ (RepSF.put hv r)
theorem s_fld {f : Str} (h : AE B te ρ o fun s o1 => AE B to ρ o1 fun x o2 => ∃ j C l, x = .ow j ∧ o2[j]? = some (.ins C l) ∧ L2.Cls K C ∧ NoAttr K C f ∧ l.length < 1000 ∧ D0.nx ρ (o2.set j (.ins C (putG f s l)))) : WS B (sFld K to te f) D0 ρ o := by
  intro F H θ σ k E hE
  refine h F H θ σ k _ fun y s F1 H1 θ1 o1 t1 k1 r1 p1 => p1 F1 H1 θ1 σ k1 _ fun x xs F2 H2 θ2 o2 t2 k2 r2 p2 => ?_
  obtain ⟨j, C, l, rfl, ho, hc, hn, hl, p⟩ := p2
  obtain ⟨a, rfl, ha⟩ := r2
  obtain ⟨b, hb, dx, fs, h1, h2⟩ := k2.own ho
  rw [ha] at hb
  cases hb
  obtain ⟨t3, k3⟩ := k2.chg (u := .ins C dx (putF f y fs)) (w := .ins C (putG f s l)) ha ho (fun z => by cases z) ⟨dx, _, upd_same, RepSF.put (r1.mono t2.ff t2.pre) h2⟩ (fun z => by cases z)
  exact ⟨a, C, dx, fs, rfl, h1, hc, hn, by rw [Paired.len h2]; exact hl, hE.nx _ _ _ _ _ _ ((t1.trans t2).trans t3.w) k3 p⟩
/-! ### dicts with a None key -/
def optSD : Option Str → D
  | none => .non
  | some x => .str x
theorem rep_nV {F : Hp} {v : V} {k : Option Str} (h : Rep F v (optSD k)) : v = nV k := by
  cases k with
  | none => exact rep_non h
  | some x => exact rep_str h
theorem e_ndisp {Pg : Program} {w : World} {te : TE} (h : AE B te ρ (o ++ [.nd Pg w []]) fun _ o1 => o1 = o ++ [.nd Pg w []] ∧ P (.ow o.length) (o ++ [.nd Pg w [none]])) : AE B (tNDisp Pg w te) ρ o P := by
  intro F H θ σ k Q q p hp
  obtain ⟨t1, k1⟩ := k.lay (u := ndO Pg w p []) (w := .nd Pg w []) hp upd_same
  have at_ : (θ ++ [p])[o.length]? = some p := by rw [← k.len]; simp
  refine h F _ (θ ++ [p]) σ (k1.slots (k.sl.mono (Ex.refl _) ⟨[p], rfl⟩)) _ fun v s F2 H2 θ2 o2 t2 k2 r2 pp => ?_
  obtain ⟨rfl, pp⟩ := pp
  obtain ⟨tt, ht⟩ := t2.pre
  have at2 : θ2[o.length]? = some p := by rw [ht, List.getElem?_append_left (List.getElem?_eq_some_iff.mp at_).1]; exact at_
  obtain ⟨p', hp', e⟩ := k2.own (j := o.length) (u := .nd Pg w []) (by simp)
  rw [at2] at hp'
  cases hp'
  obtain ⟨t3, k3⟩ := k2.chg (u := ndO Pg w p [none]) (w := .nd Pg w [none]) (w0 := .nd Pg w []) at2 (by simp) (fun z => by cases z) upd_same (fun z => by cases z)
  have eo : (o ++ [OO.nd Pg w []]).set o.length (.nd Pg w [none]) = o ++ [.nd Pg w [none]] := by
    rw [List.set_append_right _ _ (Nat.le_refl _), Nat.sub_self]
    rfl
  rw [eo] at k3
  exact ⟨e, ⟨v, rfl⟩, q _ _ _ _ _ _ (t1.w.trans (t2.trans t3.w)) k3 (RepS.own at2) pp⟩
theorem s_nput {Pg : Program} {w : World} {ti : TE} (h : AE B te ρ o fun _ o1 => AE B to ρ o1 fun x o2 => AE B ti ρ o2 fun y o3 => ∃ j k ks, x = .ow j ∧ y = .da (optSD k) ∧ o3[j]? = some (.nd Pg w ks) ∧ ks.length < sizeLine ∧ D0.nx ρ (o3.set j (.nd Pg w (addN ks k)))) : WS B (sNPut Pg w to ti te) D0 ρ o := by
  intro F H θ σ k E hE
  refine h F H θ σ k _ fun v s F1 H1 θ1 o1 t1 k1 r1 p1 => p1 F1 H1 θ1 σ k1 _ fun x xs F2 H2 θ2 o2 t2 k2 r2 p2 => p2 F2 H2 θ2 σ k2 _ fun y ys F3 H3 θ3 o3 t3 k3 r3 p3 => ?_
  obtain ⟨j, kk, ks, rfl, rfl, ho, hl, p⟩ := p3
  obtain ⟨a, rfl, ha⟩ := r2.mono t3.ff t3.pre
  obtain ⟨b, hb, e⟩ := k3.own ho
  rw [ha] at hb
  cases hb
  obtain ⟨t4, k4⟩ := k3.chg (u := ndO Pg w a (addN ks kk)) (w := .nd Pg w (addN ks kk)) ha ho (fun z => by cases z) upd_same (fun z => by cases z)
  exact ⟨a, kk, ks, rfl, rep_nV r3, e, hl, hE.nx _ _ _ _ _ _ (((t1.trans t2).trans t3).trans t4.w) k4 p⟩
theorem o_inN {Pg : Program} {w : World} {f : Bool → Bool} {j : Nat} {k : Option Str} {ks : List (Option Str)} (h : o[j]? = some (.nd Pg w ks)) (p : P (.da (.bl (f (decide (k ∈ ks))))) o) : A2 B (rInN Pg w f) (.da (optSD k)) (.ow j) o P :=
  A2.of (z := .da (.bl (f (decide (k ∈ ks))))) (fun F H θ σ ρ v u kk r1 r2 Q q => by
    obtain ⟨a, rfl, ha⟩ := r2
    obtain ⟨b, hb, e⟩ := kk.own h
    rw [ha] at hb
    cases hb
    exact ⟨k, a, ks, rep_nV r1, rfl, e, q _ (Rep.bl _)⟩) p
end
end AB

set_option Elab.async false
set_option linter.all false
set_option maxRecDepth 100000
set_option maxHeartbeats 4000000
set_option autoImplicit false
namespace AB
open PySem L2 PySem.Spec PyProof.Rows He
/-- a class's j-th row -/
def methOf (s : Stmt) (j : Nat) : Stmt := match s with
  | .ClassDef _ _ _ b _ _ _ _ _ _ _ => b.getD j (.Pass ⟨0, 0, 0, 0⟩)
  | _ => .Pass ⟨0, 0, 0, 0⟩
/-! ### methods and constructors by contract -/
structure CalM (P : Program) (w : World) (K : PySem.W.Frag) (mg : Str → Option Value) (base : Heap) (k : Nat) (c m : Str) (ps : List Str) (C : Con) : Prop where
  ex : ∃ fd, FnOk P w K mg base (L2.CX P w) k (ma K (ga K c) m) fd ps (SpC C) ∧ Meth K (ga K c) m (ma K (ga K c) m) ∧ L2.Cls K (ga K c) ∧ Binds K fd ps []
structure CalI (P : Program) (w : World) (K : PySem.W.Frag) (mg : Str → Option Value) (base : Heap) (k : Nat) (c : Str) (ps : List Str) (C : Con) : Prop where
  ex : ∃ fd, FnOk P w K mg base (L2.CX P w) k (ma K (ga K c) "__init__") fd ps (SpC C) ∧ Mk K (ga K c) (ma K (ga K c) "__init__") ∧ mg c = some (.ref (ga K c)) ∧ Binds K fd ps []
section
variable {X : Cx} {k j : Nat} {c m x : Str} {ps : List Str} {C : Con} {W : WX} {o e : Expr} {es : List Expr} {to : TE} {t : TA} {p pos apos : Pos} {pl : Sem Bool}
theorem pe_calM (h : CalM X.prog X.w X.K X.mg X.base k c m ps C) (hr : Room j X.A) (hk : k ≤ j) (tk : Takes X W) (ho : PE X o to) (ha : PA X (e :: es) t)
    (hst : starEach (e :: es) X.env = (false, eval e X.env) :: starEach es X.env := by rfl) (hpl : (backTo pos (starEach es X.env)).any (·.1) = false := by rfl)
    (ht : eval (.Call (.Attribute o m apos) (e :: es) [] pos) X.env = (do
      let ov ← eval o X.env
      standAt apos.atName
      let (g, first) ← holding [ov] (getMethod ov m pl)
      callWith pos g first (backTo pos (starEach (e :: es) X.env)) (backToKw pos (keywordEach [] X.env))) := by rfl) :
    PE X (.Call (.Attribute o m apos) (e :: es) [] pos) (tMeI (ga X.K c) m (SpC C) W to t) := by
  obtain ⟨fd, F, hm, hc, hb⟩ := h.ex
  exact pe_meI ho hc hm F (hr.mono hk) hb tk ha hst hpl ht
theorem pe_calM0 (h : CalM X.prog X.w X.K X.mg X.base k c m ps C) (hr : Room j X.A) (hk : k ≤ j) (tk : Takes X W) (ho : PE X o to)
    (ht : eval (.Call (.Attribute o m apos) [] [] pos) X.env = (do
      let ov ← eval o X.env
      standAt apos.atName
      let (g, first) ← holding [ov] (getMethod ov m pl)
      callWith pos g first (backTo pos (starEach [] X.env)) (backToKw pos (keywordEach [] X.env))) := by rfl) :
    PE X (.Call (.Attribute o m apos) [] [] pos) (tMeI (ga X.K c) m (SpC C) W to tNil) := by
  obtain ⟨fd, F, hm, hc, hb⟩ := h.ex
  exact pe_meI0 ho hc hm F (hr.mono hk) hb tk ht
theorem pe_calI (h : CalI X.prog X.w X.K X.mg X.base k x ps C) (hr : Room j X.A) (hk : k + 1 ≤ j) (hg : Gl X x) (tk : Takes X W) (ha : PA X (e :: es) t)
    (hdb : (x == ("__debug__" : Str)) = false := by decide) (he : starEach (e :: es) X.env = (false, eval e X.env) :: starEach es X.env := by rfl) (hpl : (backTo pos (starEach es X.env)).any (·.1) = false := by rfl) :
    PE X (.Call (.Name x p) (e :: es) [] pos) (tMkI (ga X.K x) (SpC C) W t) := by
  obtain ⟨fd, F, hm, hc, hb⟩ := h.ex
  exact pe_mkI hm F (hr.mono hk) hg hc hb tk ha hdb he hpl
end
theorem fn_of_con {P : Program} {w : World} {K : PySem.W.Frag} {mg : Str → Option Value} {base : Heap} {x qual : Str} {st : Stmt} {f : Addr} {fd : FuncData} {N ps : List Str} {k : Nat} {C : Con} {t : WX → TS} (F : Fun K x qual st f fd) (S : FnScope N ps (defScope st))
    (hl : ∀ ss o Rt Xt, C ss o Rt Xt → ss.length = ps.length)
    (dv : ∀ {cdv : Value} {A : Around} {outer : List Env} {s : Shared} {H : Hp} {E : XK}, Room k (A.deeper (envOfC qual (defScope st) s.heap.objs.size f cdv)) → PSs (cxOf (L2.CX P w) P w K mg base N qual (defScope st) f cdv A outer s H E) (defBody st) (t (fun cls d _ H => E cls d H)))
    (wf : ∀ B W ss o Rt Xt, B.θ.length = o.length → C ss o Rt Xt → (∀ ρ o C' fs, Xt C' fs o → AX B W ρ o C' fs) → WS B (t W) { nx := fun _ o => Rt (.da .non) o, rt := Rt } (ss.map some ++ List.replicate (N.length - ss.length) none) o) : FnOk P w K mg base (L2.CX P w) (k + 1) f fd ps (SpC C) :=
  Fun.okX F S (con_len hl) (fun cdv A outer s H vs Q E hr h => ⟨_, dv hr, con_run h fun B ss o Rt Xt hB c hX => wf B _ ss o Rt Xt hB c hX⟩)
/-! ### chains of three comparisons -/
def tChain3 (r r' r'' : R2) (ta tb tc td : TE) : TE := fun σ H Q => ta σ H fun x H1 => tb σ H1 fun y H2 => r x y H2 fun z H3 => ∃ k, z = .bl k ∧
  (if k = true then tc σ H3 fun w' H4 => r' y w' H4 fun z' H5 => ∃ k', z' = .bl k' ∧ (if k' = true then td σ H5 fun u' H6 => r'' w' u' H6 Q else Q (.bl false) H5) else Q (.bl false) H3)
section
variable {X : Cx} {a b c d : Expr} {ta tb tc td : TE} {pos : Pos}
theorem pe_chain3 {op op' op'' : CmpOp} {r r' r'' : R2} (ho : OpR X (compareOp op) r) (ho' : OpR X (compareOp op') r') (ho'' : OpR X (compareOp op'') r'') (ha : PE X a ta) (hb : PE X b tb) (hc : PE X c tc) (hd : PE X d td)
    (hm : lastMarks [op, op', op''] [b, c, d] = false := by with_unfolding_all rfl) : PE X (.Compare a [op, op', op''] [b, c, d] pos) (tChain3 r r' r'' ta tb tc td) := by
  refine ⟨fun pins s σ H Q I h => ?_⟩
  refine Compare_chain (thn (ha.run pins s σ H _ I h) fun v s1 ⟨x, H1, I1, r1, q1⟩ => chain_link (thn (hb.run pins s1 σ H1 _ I1 q1) fun u s2 ⟨y, H2, I2, r2, q2⟩ =>
    thn (ho pins s2 σ H2 x y v u _ I2 r1 r2 q2) fun d s3 ⟨z, H3, I3, r3, k, e, q3⟩ => ?_)) hm
  subst e
  cases r3
  refine wpAny_truthy_bool ?_
  cases k with
  | false => exact ite_ff ⟨.bl false, H3, I3, rfl, q3⟩
  | true =>
    refine ite_tt (chain_link (thn (hc.run pins s3 σ H3 _ I3 q3) fun w' s4 ⟨z', H4, I4, r4, q4⟩ => thn (ho' pins s4 σ H4 y z' u w' _ I4 r2 r4 q4) fun d' s5 ⟨zz, H5, I5, r5, k', e', q5⟩ => ?_))
    subst e'
    cases r5
    refine wpAny_truthy_bool ?_
    cases k' with
    | false => exact ite_ff ⟨.bl false, H5, I5, rfl, q5⟩
    | true => exact ite_tt (chain_last (thn (hd.run pins s5 σ H5 _ I5 q5) fun u' s6 ⟨z6, H6, I6, r6, q6⟩ => ho'' pins s6 σ H6 z' z6 w' u' Q I6 r4 r6 q6))
theorem pt_chain3 {op op' op'' : CmpOp} {r r' r'' : R2} (ho : OpR X (compareOp op) r) (ho' : OpR X (compareOp op') r') (ho'' : OpR X (compareOp op'') r'') (ha : PE X a ta) (hb : PE X b tb) (hc : PE X c tc) (hd : PE X d td)
    (hm : lastMarks [op, op', op''] [b, c, d] = false := by with_unfolding_all rfl) : PT X (.Compare a [op, op', op''] [b, c, d] pos) (tTest (tChain3 r r' r'' ta tb tc td)) := by
  refine ⟨fun pins s σ H Q I h => ?_⟩
  refine isTrue_chain (thn (ha.run pins s σ H _ I h) fun v s1 ⟨x, H1, I1, r1, q1⟩ => test_link (thn (hb.run pins s1 σ H1 _ I1 q1) fun u s2 ⟨y, H2, I2, r2, q2⟩ =>
    thn (ho pins s2 σ H2 x y v u _ I2 r1 r2 q2) fun d s3 ⟨z, H3, I3, r3, k, e, q3⟩ => ?_)) hm
  subst e
  cases r3
  refine wpAny_truthy_bool ?_
  cases k with
  | false =>
    obtain ⟨k', e', q'⟩ := q3
    cases e'
    exact ite_ff ⟨H3, I3, q'⟩
  | true =>
    refine ite_tt (test_link (thn (hc.run pins s3 σ H3 _ I3 q3) fun w' s4 ⟨z', H4, I4, r4, q4⟩ => thn (ho' pins s4 σ H4 y z' u w' _ I4 r2 r4 q4) fun d' s5 ⟨zz, H5, I5, r5, k', e', q5⟩ => ?_))
    subst e'
    cases r5
    refine wpAny_truthy_bool ?_
    cases k' with
    | false =>
      obtain ⟨k', e', q'⟩ := q5
      cases e'
      exact ite_ff ⟨H5, I5, q'⟩
    | true =>
      refine ite_tt (test_last (thn (hd.run pins s5 σ H5 _ I5 q5) fun u' s6 ⟨z6, H6, I6, r6, q6⟩ => thn (ho'' pins s6 σ H6 z' z6 w' u' _ I6 r4 r6 q6) fun d6 s7 ⟨z7, H7, I7, r7, k7, e7, q7⟩ => ?_))
      subst e7
      cases r7
      exact wpAny_truthy_bool ⟨H7, I7, q7⟩
end
section
variable {B : Base} {ρ : R} {o : O} {P : Sl → O → Prop} {K : PySem.W.Frag} {D0 : AD} {te ta tb tc td : TE}
theorem e_chain3 {r r' r'' : R2} (h : AE B ta ρ o fun x o1 => AE B tb ρ o1 fun y o2 => A2 B r x y o2 fun z o3 => ∃ b, z = .da (.bl b) ∧ if b = true then (AE B tc ρ o3 fun w o4 => A2 B r' y w o4 fun z' o5 => ∃ b', z' = .da (.bl b') ∧ if b' = true then AE B td ρ o5 fun u o6 => A2 B r'' w u o6 P else P (.da (.bl false)) o5) else P (.da (.bl false)) o3) :
    AE B (tChain3 r r' r'' ta tb tc td) ρ o P := by
  intro F H θ σ k Q q
  refine h F H θ σ k _ fun v x F1 H1 θ1 o1 t1 k1 r1 p1 => ?_
  refine p1 F1 H1 θ1 σ k1 _ fun u y F2 H2 θ2 o2 t2 k2 r2 p2 => ?_
  refine p2 F2 H2 θ2 σ ρ v u k2 (r1.mono t2.ff t2.pre) r2 _ fun w s F3 H3 θ3 o3 t3 k3 r3 p3 => ?_
  obtain ⟨b, e, p3⟩ := p3
  subst e
  cases r3
  refine ⟨b, rfl, ?_⟩
  cases b with
  | true =>
    refine p3 F3 H3 θ3 σ k3 _ fun u' y' F4 H4 θ4 o4 t4 k4 r4 p4 => ?_
    refine p4 F4 H4 θ4 σ ρ u u' k4 ((r2.mono t3.ff t3.pre).mono t4.ff t4.pre) r4 _ fun w s F5 H5 θ5 o5 t5 k5 r5 p5 => ?_
    obtain ⟨b', e', p5⟩ := p5
    subst e'
    cases r5
    refine ⟨b', rfl, ?_⟩
    have t15 := ((((t1.trans t2).trans t3).trans t4).trans t5)
    cases b' with
    | true =>
      refine p5 F5 H5 θ5 σ k5 _ fun u6 y6 F6 H6 θ6 o6 t6 k6 r6 p6 => ?_
      exact p6 F6 H6 θ6 σ ρ u' u6 k6 ((r4.mono t5.ff t5.pre).mono t6.ff t6.pre) r6 Q fun w s F' H' θ' o' t7 k7 r7 p7 => q w s F' H' θ' o' ((t15.trans t6).trans t7) k7 r7 p7
    | false => exact q _ _ F5 H5 θ5 o5 t15 k5 (RepS.dat (Rep.bl false)) p5
  | false => exact q _ _ F3 H3 θ3 o3 ((t1.trans t2).trans t3) k3 (RepS.dat (Rep.bl false)) p3
/-- l.extend(m) -/
theorem m_extend {j : Nat} {ss ts : List Sl} {y : Sl} (h : o[j]? = some (.lst ss)) (hy : LL o y ts) (hl : ss.length + ts.length ≤ sizeLine) (p : P (.da .non) (o.set j (.lst (ss ++ ts)))) : AM B rExtend (.ow j) [y] o P := fun F H θ σ ρ v vs k r rs Q q => by
  cases rs with
  | @cons u _ _ _ ry rn =>
    cases rn
    obtain ⟨a, xs, rfl, hj, ha, rl⟩ := ow_at k h r
    obtain ⟨b, zs, rfl, hb, rz⟩ := hy.at k ry
    refine ⟨a, b, xs, zs, rfl, rfl, ha, hb, by rw [Paired.len rl, Paired.len rz]; exact hl, ?_⟩
    obtain ⟨t2, k2⟩ := k.chg (u := .lst (xs ++ zs)) (w := .lst (ss ++ ts)) hj h (fun z => by cases z) ⟨_, upd_same, rl.app rz⟩ (fun z => by cases z)
    exact q _ _ _ _ _ _ t2.w k2 (RepS.dat Rep.non) p
end
end AB

set_option Elab.async false
set_option linter.all false
set_option maxRecDepth 100000
set_option maxHeartbeats 4000000
set_option autoImplicit false
namespace AB
open PySem L2 PySem.Spec PyProof.Rows He
namespace K07
def topS (i : Nat) : Stmt := PySem.Challenge.pw_forcedapart_k07_word_of_a_change_that_sp.main.body.getD i (.Pass ⟨0, 0, 0, 0⟩)
abbrev s_check_most : Stmt := topS 19
theorem sc_check_most : FnScope ["what", "many", "most"] ["what", "many", "most"] (defScope s_check_most) := ⟨rfl, rfl, rfl, by decide +kernel, rfl, by decide +kernel, by decide +kernel⟩
abbrev s_check_numbers : Stmt := topS 20
theorem sc_check_numbers : FnScope ["numbers", "most", "number"] ["numbers", "most"] (defScope s_check_numbers) := ⟨rfl, rfl, rfl, by decide +kernel, rfl, by decide +kernel, by decide +kernel⟩
abbrev s_check_name : Stmt := topS 22
theorem sc_check_name : FnScope ["plan", "name"] ["plan", "name"] (defScope s_check_name) := ⟨rfl, rfl, rfl, by decide +kernel, rfl, by decide +kernel, by decide +kernel⟩
abbrev s_check_moment : Stmt := topS 23
theorem sc_check_moment : FnScope ["plan", "moment"] ["plan", "moment"] (defScope s_check_moment) := ⟨rfl, rfl, rfl, by decide +kernel, rfl, by decide +kernel, by decide +kernel⟩
abbrev s_check_helper : Stmt := topS 24
theorem sc_check_helper : FnScope ["plan", "helper"] ["plan", "helper"] (defScope s_check_helper) := ⟨rfl, rfl, rfl, by decide +kernel, rfl, by decide +kernel, by decide +kernel⟩
abbrev s_spread_of : Stmt := topS 26
theorem sc_spread_of : FnScope ["plan", "starts", "helper", "moment", "knowing", "letters", "carried", "number", "sender", "sent", "receiver", "arrives"] ["plan", "starts"] (defScope s_spread_of) := ⟨rfl, rfl, rfl, by decide +kernel, rfl, by decide +kernel, by decide +kernel⟩
abbrev s_reach_of : Stmt := topS 27
theorem sc_reach_of : FnScope ["plan", "helper", "moment"] ["plan", "helper", "moment"] (defScope s_reach_of) := ⟨rfl, rfl, rfl, by decide +kernel, rfl, by decide +kernel, by decide +kernel⟩
abbrev s_check_knowing : Stmt := topS 28
theorem sc_check_knowing : FnScope ["plan", "knowing", "moment"] ["plan", "knowing"] (defScope s_check_knowing) := ⟨rfl, rfl, rfl, by decide +kernel, rfl, by decide +kernel, by decide +kernel⟩
abbrev s_judge_knowing : Stmt := topS 29
theorem sc_judge_knowing : FnScope ["plan", "knowing", "letters", "number", "sender", "sent", "receiver", "arrives"] ["plan", "knowing"] (defScope s_judge_knowing) := ⟨rfl, rfl, rfl, by decide +kernel, rfl, by decide +kernel, by decide +kernel⟩
abbrev s_takers_of : Stmt := topS 30
theorem sc_takers_of : FnScope ["plan", "knowing", "names", "row", "since"] ["plan", "knowing"] (defScope s_takers_of) := ⟨rfl, rfl, rfl, by decide +kernel, rfl, by decide +kernel, by decide +kernel⟩
abbrev s_cone_of : Stmt := topS 31
theorem sc_cone_of : FnScope ["plan", "name", "row"] ["plan", "name"] (defScope s_cone_of) := ⟨rfl, rfl, rfl, by decide +kernel, rfl, by decide +kernel, by decide +kernel⟩
abbrev s_are_together : Stmt := topS 32
theorem sc_are_together : FnScope ["plan", "one", "other", "names", "rows", "here", "there"] ["plan", "one", "other"] (defScope s_are_together) := ⟨rfl, rfl, rfl, by decide +kernel, rfl, by decide +kernel, by decide +kernel⟩
abbrev s_is_word : Stmt := topS 37
theorem sc_is_word : FnScope ["word", "sign"] ["word"] (defScope s_is_word) := ⟨rfl, rfl, rfl, by decide +kernel, rfl, by decide +kernel, by decide +kernel⟩
abbrev s_check_bounds : Stmt := topS 39
theorem sc_check_bounds : FnScope ["helpers", "last", "many", "decisions", "rules", "sights", "numbers", "name", "helper", "moment", "least", "most", "row"] ["helpers", "last", "many", "decisions", "rules", "sights"] (defScope s_check_bounds) := ⟨rfl, rfl, rfl, by decide +kernel, rfl, by decide +kernel, by decide +kernel⟩
abbrev s_in_order : Stmt := topS 40
theorem sc_in_order : FnScope ["words", "mishaps", "place", "word"] ["words", "mishaps"] (defScope s_in_order) := ⟨rfl, rfl, rfl, by decide +kernel, rfl, by decide +kernel, by decide +kernel⟩
abbrev s_are_sides : Stmt := topS 41
theorem sc_are_sides : FnScope ["yes", "no", "mishaps", "word"] ["yes", "no", "mishaps"] (defScope s_are_sides) := ⟨rfl, rfl, rfl, by decide +kernel, rfl, by decide +kernel, by decide +kernel⟩
abbrev s_check_mishaps : Stmt := topS 42
theorem sc_check_mishaps : FnScope ["mishaps", "number"] ["mishaps"] (defScope s_check_mishaps) := ⟨rfl, rfl, rfl, by decide +kernel, rfl, by decide +kernel, by decide +kernel⟩
abbrev s_check_courses : Stmt := topS 43
theorem sc_check_courses : FnScope ["courses", "mishaps", "number"] ["courses", "mishaps"] (defScope s_check_courses) := ⟨rfl, rfl, rfl, by decide +kernel, rfl, by decide +kernel, by decide +kernel⟩
abbrev s_check_decisions : Stmt := topS 44
theorem sc_check_decisions : FnScope ["decisions", "helpers", "last", "before", "number", "name", "helper", "moment", "least", "most", "fits"] ["decisions", "helpers", "last"] (defScope s_check_decisions) := ⟨rfl, rfl, rfl, by decide +kernel, rfl, by decide +kernel, by decide +kernel⟩
abbrev s_check_rules : Stmt := topS 45
theorem sc_check_rules : FnScope ["rules", "names", "mishaps", "known", "name", "number", "by", "plus", "yes", "no"] ["rules", "names", "mishaps"] (defScope s_check_rules) := ⟨rfl, rfl, rfl, by decide +kernel, rfl, by decide +kernel, by decide +kernel⟩
abbrev s_check_sights : Stmt := topS 46
theorem sc_check_sights : FnScope ["sights", "decisions", "helpers", "last", "mishaps", "made", "name", "helper", "moment", "least", "most", "number", "mishap", "doing", "reach", "fits"] ["sights", "decisions", "helpers", "last", "mishaps"] (defScope s_check_sights) := ⟨rfl, rfl, rfl, by decide +kernel, rfl, by decide +kernel, by decide +kernel⟩
abbrev s_check_letters : Stmt := topS 47
theorem sc_check_letters : FnScope ["letters", "helpers", "last", "mishaps", "number", "sender", "sent", "receiver", "arrives", "yes", "no", "fits"] ["letters", "helpers", "last", "mishaps"] (defScope s_check_letters) := ⟨rfl, rfl, rfl, by decide +kernel, rfl, by decide +kernel, by decide +kernel⟩
abbrev s__law_purse : Stmt := topS 51
theorem sc__law_purse : FnScope ["script", "at", "cell", "size", "one"] ["script", "at"] (defScope s__law_purse) := ⟨rfl, rfl, rfl, by decide +kernel, rfl, by decide +kernel, by decide +kernel⟩
abbrev s__law_draw : Stmt := topS 52
theorem sc__law_draw : FnScope ["purse", "many", "found"] ["purse", "many"] (defScope s__law_draw) := ⟨rfl, rfl, rfl, by decide +kernel, rfl, by decide +kernel, by decide +kernel⟩
abbrev s__law_word : Stmt := topS 53
theorem sc__law_word : FnScope ["purse", "taken", "signs", "base", "turn", "word"] ["purse", "taken"] (defScope s__law_word) := ⟨rfl, rfl, rfl, by decide +kernel, rfl, by decide +kernel, by decide +kernel⟩
abbrev s__law_words : Stmt := topS 54
theorem sc__law_words : FnScope ["purse", "many", "words", "turn"] ["purse", "many"] (defScope s__law_words) := ⟨rfl, rfl, rfl, by decide +kernel, rfl, by decide +kernel, by decide +kernel⟩
abbrev s__law_sides : Stmt := topS 55
theorem sc__law_sides : FnScope ["purse", "mishaps", "yes", "no", "word", "kind"] ["purse", "mishaps"] (defScope s__law_sides) := ⟨rfl, rfl, rfl, by decide +kernel, rfl, by decide +kernel, by decide +kernel⟩
abbrev s__law_letters : Stmt := topS 56
theorem sc__law_letters : FnScope ["purse", "helpers", "last", "mishaps", "many", "found", "turn", "sender", "receiver", "sent", "arrives", "sides"] ["purse", "helpers", "last", "mishaps", "many"] (defScope s__law_letters) := ⟨rfl, rfl, rfl, by decide +kernel, rfl, by decide +kernel, by decide +kernel⟩
abbrev s__law_plan : Stmt := topS 57
theorem sc__law_plan : FnScope ["world"] ["world"] (defScope s__law_plan) := ⟨rfl, rfl, rfl, by decide +kernel, rfl, by decide +kernel, by decide +kernel⟩
abbrev s__law_matches : Stmt := topS 58
theorem sc__law_matches : FnScope ["told", "due", "at"] ["told", "due"] (defScope s__law_matches) := ⟨rfl, rfl, rfl, by decide +kernel, rfl, by decide +kernel, by decide +kernel⟩
abbrev s__law_own_spread : Stmt := topS 59
theorem sc__law_own_spread : FnScope ["world", "starts", "knowing", "helper", "moment", "turn", "letter", "since"] ["world", "starts"] (defScope s__law_own_spread) := ⟨rfl, rfl, rfl, by decide +kernel, rfl, by decide +kernel, by decide +kernel⟩
abbrev s__law_own_takers : Stmt := topS 60
theorem sc__law_own_takers : FnScope ["world", "knowing", "names", "row"] ["world", "knowing"] (defScope s__law_own_takers) := ⟨rfl, rfl, rfl, by decide +kernel, rfl, by decide +kernel, by decide +kernel⟩
abbrev s__law_word_world : Stmt := topS 61
theorem sc__law_word_world : FnScope ["purse", "helpers", "last", "mishaps", "rows", "name", "letters", "sights"] ["purse"] (defScope s__law_word_world) := ⟨rfl, rfl, rfl, by decide +kernel, rfl, by decide +kernel, by decide +kernel⟩
abbrev s__law_open_letter : Stmt := topS 62
theorem sc__law_open_letter : FnScope ["world", "knowing", "k", "sender", "sent", "receiver", "arrives", "yes", "no", "since", "then"] ["world", "knowing"] (defScope s__law_open_letter) := ⟨rfl, rfl, rfl, by decide +kernel, rfl, by decide +kernel, by decide +kernel⟩
abbrev s__law_every_list : Stmt := topS 63
theorem sc__law_every_list : FnScope ["world", "lists", "helper", "longer", "one", "item"] ["world"] (defScope s__law_every_list) := ⟨rfl, rfl, rfl, by decide +kernel, rfl, by decide +kernel, by decide +kernel⟩
abbrev s__law_least_closed : Stmt := topS 64
theorem sc__law_least_closed : FnScope ["world", "closed", "starts", "found", "knowing", "holds", "helper", "moment", "at"] ["world", "closed", "starts"] (defScope s__law_least_closed) := ⟨rfl, rfl, rfl, by decide +kernel, rfl, by decide +kernel, by decide +kernel⟩
abbrev s__law_spread_told : Stmt := topS 65
theorem sc__law_spread_told : FnScope ["plan", "starts", "told", "e"] ["plan", "starts"] (defScope s__law_spread_told) := ⟨rfl, rfl, rfl, by decide +kernel, rfl, by decide +kernel, by decide +kernel⟩
abbrev s__law_list_told : Stmt := topS 66
theorem sc__law_list_told : FnScope ["plan", "kind", "knowing", "told", "e"] ["plan", "kind", "knowing"] (defScope s__law_list_told) := ⟨rfl, rfl, rfl, by decide +kernel, rfl, by decide +kernel, by decide +kernel⟩
abbrev s__law_name_told : Stmt := topS 67
theorem sc__law_name_told : FnScope ["plan", "kind", "one", "other", "told", "e"] ["plan", "kind", "one", "other"] (defScope s__law_name_told) := ⟨rfl, rfl, rfl, by decide +kernel, rfl, by decide +kernel, by decide +kernel⟩
abbrev s__law_reach_told : Stmt := topS 68
theorem sc__law_reach_told : FnScope ["plan", "helper", "moment", "told", "e"] ["plan", "helper", "moment"] (defScope s__law_reach_told) := ⟨rfl, rfl, rfl, by decide +kernel, rfl, by decide +kernel, by decide +kernel⟩
abbrev s__law_decisions_right : Stmt := topS 69
theorem sc__law_decisions_right : FnScope ["plan", "world", "closed", "row", "due", "turn", "told", "names", "other"] ["plan", "world", "closed"] (defScope s__law_decisions_right) := ⟨rfl, rfl, rfl, by decide +kernel, rfl, by decide +kernel, by decide +kernel⟩
abbrev s__law_errors_right : Stmt := topS 70
theorem sc__law_errors_right : FnScope ["purse", "plan", "world", "known", "strange", "helpers", "moments", "starts", "helper", "moment", "due", "at", "bad", "kind", "one", "other", "row", "turn"] ["purse", "plan", "world"] (defScope s__law_errors_right) := ⟨rfl, rfl, rfl, by decide +kernel, rfl, by decide +kernel, by decide +kernel⟩
abbrev s__law_great_right : Stmt := topS 71
theorem sc__law_great_right : FnScope ["purse", "mishaps", "letters", "world", "plan", "starts", "due", "told", "turn"] ["purse"] (defScope s__law_great_right) := ⟨rfl, rfl, rfl, by decide +kernel, rfl, by decide +kernel, by decide +kernel⟩
abbrev s_law : Stmt := topS 72
theorem sc_law : FnScope ["script", "purse", "world", "plan", "closed", "knowing", "due", "handed", "many", "starts", "told", "turn", "one"] ["script"] (defScope s_law) := ⟨rfl, rfl, rfl, by decide +kernel, rfl, by decide +kernel, by decide +kernel⟩
abbrev s_Plan_init : Stmt := methOf (topS 49) 0
theorem sc_Plan_init : FnScope ["self", "helpers", "last", "mishaps", "courses", "decisions", "rules", "sights", "letters", "many", "row"] ["self", "helpers", "last", "mishaps", "courses", "decisions", "rules", "sights", "letters"] (defScope s_Plan_init) := ⟨rfl, rfl, rfl, by decide +kernel, rfl, by decide +kernel, by decide +kernel⟩
abbrev s_Plan_check_rows : Stmt := methOf (topS 49) 1
theorem sc_Plan_check_rows : FnScope ["self", "row"] ["self"] (defScope s_Plan_check_rows) := ⟨rfl, rfl, rfl, by decide +kernel, rfl, by decide +kernel, by decide +kernel⟩
abbrev s_Plan_helpers : Stmt := methOf (topS 49) 3
theorem sc_Plan_helpers : FnScope ["self"] ["self"] (defScope s_Plan_helpers) := ⟨rfl, rfl, rfl, by decide +kernel, rfl, by decide +kernel, by decide +kernel⟩
abbrev s_Plan_last : Stmt := methOf (topS 49) 4
theorem sc_Plan_last : FnScope ["self"] ["self"] (defScope s_Plan_last) := ⟨rfl, rfl, rfl, by decide +kernel, rfl, by decide +kernel, by decide +kernel⟩
abbrev s_Plan_decisions : Stmt := methOf (topS 49) 7
theorem sc_Plan_decisions : FnScope ["self"] ["self"] (defScope s_Plan_decisions) := ⟨rfl, rfl, rfl, by decide +kernel, rfl, by decide +kernel, by decide +kernel⟩
abbrev s_Plan_letters : Stmt := methOf (topS 49) 10
theorem sc_Plan_letters : FnScope ["self", "row"] ["self"] (defScope s_Plan_letters) := ⟨rfl, rfl, rfl, by decide +kernel, rfl, by decide +kernel, by decide +kernel⟩
abbrev s_Plan_names : Stmt := methOf (topS 49) 11
theorem sc_Plan_names : FnScope ["self", "row"] ["self"] (defScope s_Plan_names) := ⟨rfl, rfl, rfl, by decide +kernel, rfl, by decide +kernel, by decide +kernel⟩
abbrev s_Plan_place : Stmt := methOf (topS 49) 12
theorem sc_Plan_place : FnScope ["self", "name"] ["self", "name"] (defScope s_Plan_place) := ⟨rfl, rfl, rfl, by decide +kernel, rfl, by decide +kernel, by decide +kernel⟩
abbrev s_Plan_holds : Stmt := methOf (topS 49) 13
theorem sc_Plan_holds : FnScope ["self", "course", "yes", "no", "row", "word"] ["self", "course", "yes", "no"] (defScope s_Plan_holds) := ⟨rfl, rfl, rfl, by decide +kernel, rfl, by decide +kernel, by decide +kernel⟩
abbrev s_Plan_carried : Stmt := methOf (topS 49) 15
theorem sc_Plan_carried : FnScope ["self", "course", "found", "number"] ["self", "course"] (defScope s_Plan_carried) := ⟨rfl, rfl, rfl, by decide +kernel, rfl, by decide +kernel, by decide +kernel⟩
abbrev s_ApartError : Stmt := topS 2
abbrev s_TooMany : Stmt := topS 3
abbrev s_BadPlan : Stmt := topS 4
abbrev s_BadCourse : Stmt := topS 5
abbrev s_BadMoment : Stmt := topS 6
abbrev s_BadNames : Stmt := topS 7
abbrev s_Plan : Stmt := topS 49
end K07
end AB

set_option Elab.async false
set_option linter.all false
set_option maxRecDepth 100000
set_option maxHeartbeats 4000000
set_option autoImplicit false
namespace AB
open PySem L2 PySem.Spec PyProof.Rows He
namespace K07
def D_check_most : He.DefD := ⟨("check_most", none), "check_most", "check_most", defArgs s_check_most, defBody s_check_most, defScope s_check_most, [], []⟩
def D_check_numbers : He.DefD := ⟨("check_numbers", none), "check_numbers", "check_numbers", defArgs s_check_numbers, defBody s_check_numbers, defScope s_check_numbers, [], []⟩
def D_check_name : He.DefD := ⟨("check_name", none), "check_name", "check_name", defArgs s_check_name, defBody s_check_name, defScope s_check_name, [], []⟩
def D_check_moment : He.DefD := ⟨("check_moment", none), "check_moment", "check_moment", defArgs s_check_moment, defBody s_check_moment, defScope s_check_moment, [], []⟩
def D_check_helper : He.DefD := ⟨("check_helper", none), "check_helper", "check_helper", defArgs s_check_helper, defBody s_check_helper, defScope s_check_helper, [], []⟩
def D_spread_of : He.DefD := ⟨("spread_of", none), "spread_of", "spread_of", defArgs s_spread_of, defBody s_spread_of, defScope s_spread_of, [], []⟩
def D_reach_of : He.DefD := ⟨("reach_of", none), "reach_of", "reach_of", defArgs s_reach_of, defBody s_reach_of, defScope s_reach_of, [], []⟩
def D_check_knowing : He.DefD := ⟨("check_knowing", none), "check_knowing", "check_knowing", defArgs s_check_knowing, defBody s_check_knowing, defScope s_check_knowing, [], []⟩
def D_judge_knowing : He.DefD := ⟨("judge_knowing", none), "judge_knowing", "judge_knowing", defArgs s_judge_knowing, defBody s_judge_knowing, defScope s_judge_knowing, [], []⟩
def D_takers_of : He.DefD := ⟨("takers_of", none), "takers_of", "takers_of", defArgs s_takers_of, defBody s_takers_of, defScope s_takers_of, [], []⟩
def D_cone_of : He.DefD := ⟨("cone_of", none), "cone_of", "cone_of", defArgs s_cone_of, defBody s_cone_of, defScope s_cone_of, [], []⟩
def D_are_together : He.DefD := ⟨("are_together", none), "are_together", "are_together", defArgs s_are_together, defBody s_are_together, defScope s_are_together, [], []⟩
def D_is_word : He.DefD := ⟨("is_word", none), "is_word", "is_word", defArgs s_is_word, defBody s_is_word, defScope s_is_word, [], []⟩
def D_check_bounds : He.DefD := ⟨("check_bounds", none), "check_bounds", "check_bounds", defArgs s_check_bounds, defBody s_check_bounds, defScope s_check_bounds, [], []⟩
def D_in_order : He.DefD := ⟨("in_order", none), "in_order", "in_order", defArgs s_in_order, defBody s_in_order, defScope s_in_order, [], []⟩
def D_are_sides : He.DefD := ⟨("are_sides", none), "are_sides", "are_sides", defArgs s_are_sides, defBody s_are_sides, defScope s_are_sides, [], []⟩
def D_check_mishaps : He.DefD := ⟨("check_mishaps", none), "check_mishaps", "check_mishaps", defArgs s_check_mishaps, defBody s_check_mishaps, defScope s_check_mishaps, [], []⟩
def D_check_courses : He.DefD := ⟨("check_courses", none), "check_courses", "check_courses", defArgs s_check_courses, defBody s_check_courses, defScope s_check_courses, [], []⟩
def D_check_decisions : He.DefD := ⟨("check_decisions", none), "check_decisions", "check_decisions", defArgs s_check_decisions, defBody s_check_decisions, defScope s_check_decisions, [], []⟩
def D_check_rules : He.DefD := ⟨("check_rules", none), "check_rules", "check_rules", defArgs s_check_rules, defBody s_check_rules, defScope s_check_rules, [], []⟩
def D_check_sights : He.DefD := ⟨("check_sights", none), "check_sights", "check_sights", defArgs s_check_sights, defBody s_check_sights, defScope s_check_sights, [], []⟩
def D_check_letters : He.DefD := ⟨("check_letters", none), "check_letters", "check_letters", defArgs s_check_letters, defBody s_check_letters, defScope s_check_letters, [], []⟩
def D__law_purse : He.DefD := ⟨("_law_purse", none), "_law_purse", "_law_purse", defArgs s__law_purse, defBody s__law_purse, defScope s__law_purse, [], []⟩
def D__law_draw : He.DefD := ⟨("_law_draw", none), "_law_draw", "_law_draw", defArgs s__law_draw, defBody s__law_draw, defScope s__law_draw, [], []⟩
def D__law_word : He.DefD := ⟨("_law_word", none), "_law_word", "_law_word", defArgs s__law_word, defBody s__law_word, defScope s__law_word, [], []⟩
def D__law_words : He.DefD := ⟨("_law_words", none), "_law_words", "_law_words", defArgs s__law_words, defBody s__law_words, defScope s__law_words, [], []⟩
def D__law_sides : He.DefD := ⟨("_law_sides", none), "_law_sides", "_law_sides", defArgs s__law_sides, defBody s__law_sides, defScope s__law_sides, [], []⟩
def D__law_letters : He.DefD := ⟨("_law_letters", none), "_law_letters", "_law_letters", defArgs s__law_letters, defBody s__law_letters, defScope s__law_letters, [], []⟩
def D__law_plan : He.DefD := ⟨("_law_plan", none), "_law_plan", "_law_plan", defArgs s__law_plan, defBody s__law_plan, defScope s__law_plan, [], []⟩
def D__law_matches : He.DefD := ⟨("_law_matches", none), "_law_matches", "_law_matches", defArgs s__law_matches, defBody s__law_matches, defScope s__law_matches, [], []⟩
def D__law_own_spread : He.DefD := ⟨("_law_own_spread", none), "_law_own_spread", "_law_own_spread", defArgs s__law_own_spread, defBody s__law_own_spread, defScope s__law_own_spread, [], []⟩
def D__law_own_takers : He.DefD := ⟨("_law_own_takers", none), "_law_own_takers", "_law_own_takers", defArgs s__law_own_takers, defBody s__law_own_takers, defScope s__law_own_takers, [], []⟩
def D__law_word_world : He.DefD := ⟨("_law_word_world", none), "_law_word_world", "_law_word_world", defArgs s__law_word_world, defBody s__law_word_world, defScope s__law_word_world, [], []⟩
def D__law_open_letter : He.DefD := ⟨("_law_open_letter", none), "_law_open_letter", "_law_open_letter", defArgs s__law_open_letter, defBody s__law_open_letter, defScope s__law_open_letter, [], []⟩
def D__law_every_list : He.DefD := ⟨("_law_every_list", none), "_law_every_list", "_law_every_list", defArgs s__law_every_list, defBody s__law_every_list, defScope s__law_every_list, [], []⟩
def D__law_least_closed : He.DefD := ⟨("_law_least_closed", none), "_law_least_closed", "_law_least_closed", defArgs s__law_least_closed, defBody s__law_least_closed, defScope s__law_least_closed, [], []⟩
def D__law_spread_told : He.DefD := ⟨("_law_spread_told", none), "_law_spread_told", "_law_spread_told", defArgs s__law_spread_told, defBody s__law_spread_told, defScope s__law_spread_told, [], []⟩
def D__law_list_told : He.DefD := ⟨("_law_list_told", none), "_law_list_told", "_law_list_told", defArgs s__law_list_told, defBody s__law_list_told, defScope s__law_list_told, [], []⟩
def D__law_name_told : He.DefD := ⟨("_law_name_told", none), "_law_name_told", "_law_name_told", defArgs s__law_name_told, defBody s__law_name_told, defScope s__law_name_told, [], []⟩
def D__law_reach_told : He.DefD := ⟨("_law_reach_told", none), "_law_reach_told", "_law_reach_told", defArgs s__law_reach_told, defBody s__law_reach_told, defScope s__law_reach_told, [], []⟩
def D__law_decisions_right : He.DefD := ⟨("_law_decisions_right", none), "_law_decisions_right", "_law_decisions_right", defArgs s__law_decisions_right, defBody s__law_decisions_right, defScope s__law_decisions_right, [], []⟩
def D__law_errors_right : He.DefD := ⟨("_law_errors_right", none), "_law_errors_right", "_law_errors_right", defArgs s__law_errors_right, defBody s__law_errors_right, defScope s__law_errors_right, [], []⟩
def D__law_great_right : He.DefD := ⟨("_law_great_right", none), "_law_great_right", "_law_great_right", defArgs s__law_great_right, defBody s__law_great_right, defScope s__law_great_right, [], []⟩
def D_law : He.DefD := ⟨("law", none), "law", "law", defArgs s_law, defBody s_law, defScope s_law, [], []⟩
def D_Plan_init : He.DefD := ⟨("Plan", some "__init__"), "__init__", "Plan.__init__", defArgs s_Plan_init, defBody s_Plan_init, defScope s_Plan_init, [], []⟩
def D_Plan_check_rows : He.DefD := ⟨("Plan", some "check_rows"), "check_rows", "Plan.check_rows", defArgs s_Plan_check_rows, defBody s_Plan_check_rows, defScope s_Plan_check_rows, [], []⟩
def D_Plan_helpers : He.DefD := ⟨("Plan", some "helpers"), "helpers", "Plan.helpers", defArgs s_Plan_helpers, defBody s_Plan_helpers, defScope s_Plan_helpers, [], []⟩
def D_Plan_last : He.DefD := ⟨("Plan", some "last"), "last", "Plan.last", defArgs s_Plan_last, defBody s_Plan_last, defScope s_Plan_last, [], []⟩
def D_Plan_decisions : He.DefD := ⟨("Plan", some "decisions"), "decisions", "Plan.decisions", defArgs s_Plan_decisions, defBody s_Plan_decisions, defScope s_Plan_decisions, [], []⟩
def D_Plan_letters : He.DefD := ⟨("Plan", some "letters"), "letters", "Plan.letters", defArgs s_Plan_letters, defBody s_Plan_letters, defScope s_Plan_letters, [], []⟩
def D_Plan_names : He.DefD := ⟨("Plan", some "names"), "names", "Plan.names", defArgs s_Plan_names, defBody s_Plan_names, defScope s_Plan_names, [], []⟩
def D_Plan_place : He.DefD := ⟨("Plan", some "place"), "place", "Plan.place", defArgs s_Plan_place, defBody s_Plan_place, defScope s_Plan_place, [], []⟩
def D_Plan_holds : He.DefD := ⟨("Plan", some "holds"), "holds", "Plan.holds", defArgs s_Plan_holds, defBody s_Plan_holds, defScope s_Plan_holds, [], []⟩
def D_Plan_carried : He.DefD := ⟨("Plan", some "carried"), "carried", "Plan.carried", defArgs s_Plan_carried, defBody s_Plan_carried, defScope s_Plan_carried, [], []⟩
def D_TooMany : He.DefD := ⟨("TooMany", some "__init__"), "__init__", "TooMany.__init__", defArgs (initOf s_TooMany), defBody (initOf s_TooMany), defScope (initOf s_TooMany), [], []⟩
def D_BadPlan : He.DefD := ⟨("BadPlan", some "__init__"), "__init__", "BadPlan.__init__", defArgs (initOf s_BadPlan), defBody (initOf s_BadPlan), defScope (initOf s_BadPlan), [], []⟩
def D_BadCourse : He.DefD := ⟨("BadCourse", some "__init__"), "__init__", "BadCourse.__init__", defArgs (initOf s_BadCourse), defBody (initOf s_BadCourse), defScope (initOf s_BadCourse), [], []⟩
def D_BadMoment : He.DefD := ⟨("BadMoment", some "__init__"), "__init__", "BadMoment.__init__", defArgs (initOf s_BadMoment), defBody (initOf s_BadMoment), defScope (initOf s_BadMoment), [], []⟩
def D_BadNames : He.DefD := ⟨("BadNames", some "__init__"), "__init__", "BadNames.__init__", defArgs (initOf s_BadNames), defBody (initOf s_BadNames), defScope (initOf s_BadNames), [], []⟩
def fn : List He.DefD := ([D_check_most, D_check_numbers, D_check_name, D_check_moment, D_check_helper, D_spread_of, D_reach_of, D_check_knowing, D_judge_knowing, D_takers_of, D_cone_of, D_are_together, D_is_word, D_check_bounds, D_in_order, D_are_sides, D_check_mishaps, D_check_courses, D_check_decisions, D_check_rules, D_check_sights, D_check_letters, D__law_purse, D__law_draw, D__law_word, D__law_words, D__law_sides, D__law_letters, D__law_plan, D__law_matches] : List He.DefD) ++ ([D__law_own_spread, D__law_own_takers, D__law_word_world, D__law_open_letter, D__law_every_list, D__law_least_closed, D__law_spread_told, D__law_list_told, D__law_name_told, D__law_reach_told, D__law_decisions_right, D__law_errors_right, D__law_great_right, D_law, D_Plan_init, D_Plan_check_rows, D_Plan_helpers, D_Plan_last, D_Plan_decisions, D_Plan_letters, D_Plan_names, D_Plan_place, D_Plan_holds, D_Plan_carried, D_TooMany, D_BadPlan, D_BadCourse, D_BadMoment, D_BadNames] : List He.DefD)
def fa : List He.Fa := ([.glo "check_most", .glo "check_numbers", .glo "check_name", .glo "check_moment", .glo "check_helper", .glo "spread_of", .glo "reach_of", .glo "check_knowing", .glo "judge_knowing", .glo "takers_of", .glo "cone_of", .glo "are_together", .glo "is_word", .glo "check_bounds", .glo "in_order", .glo "are_sides", .glo "check_mishaps", .glo "check_courses", .glo "check_decisions", .glo "check_rules", .glo "check_sights", .glo "check_letters", .glo "_law_purse", .glo "_law_draw", .glo "_law_word", .glo "_law_words", .glo "_law_sides", .glo "_law_letters", .glo "_law_plan", .glo "_law_matches"] : List He.Fa) ++ ([.glo "_law_own_spread", .glo "_law_own_takers", .glo "_law_word_world", .glo "_law_open_letter", .glo "_law_every_list", .glo "_law_least_closed", .glo "_law_spread_told", .glo "_law_list_told", .glo "_law_name_told", .glo "_law_reach_told", .glo "_law_decisions_right", .glo "_law_errors_right", .glo "_law_great_right", .glo "law", .free "abs", .free "bool", .free "int", .free "isinstance", .free "len", .free "list", .free "min", .free "range", .free "str", .free "sum", .free "tuple", .int "COURSES" (12), .int "DECISIONS" (40), .str "FIRSTS" "abcdefghijklmnopqrstuvwxyz", .int "HELPERS" (8), .int "LETTERS" (160)] : List He.Fa) ++ ([.int "MISHAPS" (6), .int "MOMENTS" (24), .int "NUMBERS" (1000000000), .str "REST" "abcdefghijklmnopqrstuvwxyz0123456789.", .int "RULES" (200), .int "SIGHTS" (24), .int "STARTS" (24), .int "WORD_LENGTH" (12), .exm "TooMany" "TooMany" true, .exm "TooMany" "BadPlan" false, .exm "TooMany" "BadCourse" false, .exm "TooMany" "BadMoment" false, .exm "TooMany" "BadNames" false, .exm "BadPlan" "TooMany" false, .exm "BadPlan" "BadPlan" true, .exm "BadPlan" "BadCourse" false, .exm "BadPlan" "BadMoment" false, .exm "BadPlan" "BadNames" false, .exm "BadCourse" "TooMany" false, .exm "BadCourse" "BadPlan" false, .exm "BadCourse" "BadCourse" true, .exm "BadCourse" "BadMoment" false, .exm "BadCourse" "BadNames" false, .exm "BadMoment" "TooMany" false, .exm "BadMoment" "BadPlan" false, .exm "BadMoment" "BadCourse" false, .exm "BadMoment" "BadMoment" true, .exm "BadMoment" "BadNames" false, .exm "BadNames" "TooMany" false, .exm "BadNames" "BadPlan" false] : List He.Fa) ++ ([.exm "BadNames" "BadCourse" false, .exm "BadNames" "BadMoment" false, .exm "BadNames" "BadNames" true, .cls "Plan", .glo "Plan", .mkr "Plan", .noat "Plan" "course_rows", .noat "Plan" "decision_places", .noat "Plan" "decision_rows", .noat "Plan" "helper_count", .noat "Plan" "last_moment", .noat "Plan" "letter_rows", .noat "Plan" "mishap_words", .noat "Plan" "rule_rows", .noat "Plan" "sight_rows", .meth "Plan" "check_rows", .meth "Plan" "helpers", .meth "Plan" "last", .meth "Plan" "decisions", .meth "Plan" "letters", .meth "Plan" "names", .meth "Plan" "place", .meth "Plan" "holds", .meth "Plan" "carried"] : List He.Fa)
def ex (K : PySem.W.Frag) : Bool := exfB K "TooMany" ["what"] && (exfB K "BadPlan" ["what", "number"] && (exfB K "BadCourse" ["number"] && (exfB K "BadMoment" ["moment"] && (exfB K "BadNames" ["words"] && (apartB K)))))
abbrev RR_ : PySem.W.OpenRow := PySem.W.OpenLaw.row PySem.Challenge.rw_forcedapart_k07_word_of_a_change_that_sp
def asY (g : Addr → Option Obj) : List Addr := cStatics :: He.asD g 6
def obsY (g : Addr → Option Obj) : He.AlD × Bool := (He.obsD fa fn (He.frG g (asY g)), ex (He.frG g (asY g)))
def hk : PySem.W.Hook where
  α := He.AlD × Bool
  obs := fun s => obsY s.heap.get?
  val := fun _ => (He.valD fn, true)
  says := fun _ h => ∃ K : PySem.W.Frag, K.In h ∧ He.SaysD fa fn K ∧ ex K = true
  of := fun _ _ e => ⟨_, He.frG_in, congrArg (fun z : He.AlD × Bool => z.1) e, congrArg (fun z : He.AlD × Bool => z.2) e⟩
  keeps := fun _ _ _ ⟨K, hK, c⟩ k => ⟨K, PySem.W.Frag.In.keeps hK k, c⟩
def ob (s : PySem.W.SharedT) : He.AlD × Bool := obsY (HandSHeadRun.getT s)
theorem ob_eq (s : PySem.W.SharedT) : ob s = hk.obs s.abs := by
  have e : HandSHeadRun.getT s = s.abs.heap.get? := funext (HandSHeadRun.getT_eq s)
  unfold ob
  rw [e] <;> rfl
def names : List PySem.Str := (["_wall", "ApartError", "TooMany", "BadPlan", "BadCourse", "BadMoment", "BadNames", "HELPERS", "MOMENTS", "MISHAPS", "COURSES", "DECISIONS", "RULES", "SIGHTS", "LETTERS", "NUMBERS", "STARTS", "check_most", "check_numbers", "check_name", "check_moment", "check_helper", "spread_of", "reach_of", "check_knowing", "judge_knowing", "takers_of", "cone_of", "are_together", "FIRSTS"] : List PySem.Str) ++ (["REST", "WORD_LENGTH", "is_word", "check_bounds", "in_order", "are_sides", "check_mishaps", "check_courses", "check_decisions", "check_rules", "check_sights", "check_letters", "Plan", "_law_purse", "_law_draw", "_law_word", "_law_words", "_law_sides", "_law_letters", "_law_plan", "_law_matches", "_law_own_spread", "_law_own_takers", "_law_word_world", "_law_open_letter", "_law_every_list", "_law_least_closed", "_law_spread_told", "_law_list_told", "_law_name_told"] : List PySem.Str) ++ (["_law_reach_told", "_law_decisions_right", "_law_errors_right", "_law_great_right"] : List PySem.Str)
theorem run (w : World) : HandSHeadRun.RunEq RR_ (PySem.W.view RR_.prog [72]) hk ob 4000 names w := by
  intro os
  kernel_rfl

end K07
end AB

set_option Elab.async false
set_option linter.all false
set_option maxRecDepth 100000
set_option maxHeartbeats 4000000
set_option autoImplicit false
namespace AB
open PySem L2 PySem.Spec PyProof.Rows He
section
variable {B : Base} {ρ : R} {o : O} {P : Sl → O → Prop} {K : PySem.W.Frag} {D0 : AD} {te ta tb tc td : TE}
theorem Ok.reown {F H : Hp} {θ : List Addr} {σ : L2.St} {j : Nat} {w w' : OO} (k : Ok B F H θ σ ρ o) (hj : o[j]? = some w) (hg : w ≠ .gone) (hr : ∀ a, θ[j]? = some a → RepO F H θ a w → RepO F H θ a w') : Ok B F H θ σ ρ (o.set j w') := by
  have hl := (List.getElem?_eq_some_iff.mp hj).1
  refine ⟨k.tr, k.fh, by rw [List.length_set]; exact k.len, k.nd, fun i a u h1 h2 h3 => ?_, fun i a u h1 h2 => ?_, k.sl⟩
  · by_cases q : i = j
    · subst q
      exact k.fr i a w h1 hj hg
    · rw [List.getElem?_set_ne (fun z => q z.symm)] at h2
      exact k.fr i a u h1 h2 h3
  · by_cases q : i = j
    · subst q
      rw [List.getElem?_set_self hl] at h2
      cases h2
      exact hr a h1 (k.ob i a w h1 hj)
    · rw [List.getElem?_set_ne (fun z => q z.symm)] at h2
      exact k.ob i a u h1 h2
theorem RepSF.swap {F : Hp} {θ : List Addr} {f : Str} {s s' : Sl} (hs : ∀ v, RepS F θ v s → RepS F θ v s') : ∀ {fs : List (Str × V)} {l : List (Str × Sl)}, RepSF F θ fs l → l.lookup f = some s → RepSF F θ fs (putG f s' l)
  | [], [], .nil, e => by cases e
  | (g, v) :: fs, (g', x) :: l, .cons ⟨e0, h⟩ r, e => by
    dsimp only at e0 h
    subst e0
    unfold putG
    by_cases q : g = f
    · subst q
      rw [if_pos rfl]
      simp only [List.lookup, beq_self_eq_true] at e
      cases e
      exact .cons ⟨rfl, hs _ h⟩ r
    · rw [if_neg q]
      have qb : (f == g) = false := by simpa using fun z => q z.symm
      simp only [List.lookup, qb] at e
      exact .cons ⟨rfl, h⟩ (RepSF.swap hs r e)
/-- an own object in a field of an own instance comes to stay -/
theorem s_frzF {t : TS} (f : Str) {j n : Nat} {C : Addr} {l : List (Str × Sl)} {w : OO} {d : D} (hj : o[j]? = some (.ins C l)) (hl : l.lookup f = some (.ow n)) (hb : B.θ.length ≤ n) (ho : o[n]? = some w) (hne : n ≠ j) (fz : Frz w d) (h : WS B t D0 ρ ((o.set n .gone).set j (.ins C (putG f (.da d) l)))) : WS B t D0 ρ o := fun F H θ σ k E hE => by
  obtain ⟨a, F', ha, k', t', r'⟩ := k.frzD hb ho fz
  have hj' : (o.set n .gone)[j]? = some (.ins C l) := by rw [List.getElem?_set_ne hne]; exact hj
  refine h F' H θ σ (k'.reown hj' (fun z => by cases z) fun b hb2 hr => ?_) E (hE.on t')
  obtain ⟨dx, fs, h1, h2⟩ := hr
  refine ⟨dx, fs, h1, RepSF.swap (fun v r => ?_) h2 hl⟩
  obtain ⟨a', rfl, ha'⟩ := r
  rw [ha] at ha'
  cases ha'
  exact RepS.dat r'
/-- list(range(..)) -/
def rgD (n : Int) : List D := (List.range n.toNat).map fun (i : Nat) => D.int i
theorem rg_rep {F : Hp} {θ : List Addr} (n : Int) : RepSL F θ (rgV 0 n) ((rgD n).map Sl.da) := by
  unfold rgV rgD
  rw [Int.sub_zero, List.map_map]
  have : ∀ l : List Nat, RepSL F θ (l.map fun i => V.int (0 + (i : Nat))) (l.map (Sl.da ∘ fun (i : Nat) => D.int i)) := by
    intro l
    induction l with
    | nil => exact .nil
    | cons a r ih => exact .cons (by show RepS F θ (V.int (0 + (a : Nat))) (Sl.da (D.int (a : Nat))); rw [Int.zero_add]; exact RepS.dat (Rep.int _)) ih
  exact this _
theorem e_lstRg (h : AE B ta ρ o fun s o1 => ∃ n : Int, s = .da (.int n) ∧ 0 ≤ n ∧ n ≤ 16777216 ∧ P (.ow o1.length) (o1 ++ [.lst ((rgD n).map Sl.da)])) : AE B (tLstRg (tRg1 ta)) ρ o P := by
  intro F H θ σ k Q q
  refine h F H θ σ k _ fun v s F1 H1 θ1 o1 t1 k1 r1 p1 => ?_
  obtain ⟨n, rfl, h0, h1, p⟩ := p1
  refine ⟨n, rep_int r1, RgOk.of_le (Int.le_refl _) h1 (by omega) h0, fun x hx => ?_⟩
  obtain ⟨t2, k2⟩ := k1.lay (u := .lst (rgV 0 n)) (w := .lst ((rgD n).map Sl.da)) hx ⟨_, upd_same, rg_rep n⟩
  refine q _ _ _ _ _ _ (t1.trans t2.w) k2 (RepS.own ?_) p
  rw [← k1.len]
  simp
/-- l.index(x), l a list of data -/
theorem m_index {x : D} {ds : List D} {j : Nat} (hl : SeqAt.shaped (.list (D.pyL ds)) = true) (hx : SeqAt.shaped x.py = true) (pl : PyData.plainAll (D.pyL ds) = true) (px : x.py.plain = true) {z : PyData} (hz : (D.pyL ds)[j]? = some z) (he : PyData.eqv z x.py = true)
    (hn : ∀ (m : Nat) (z' : PyData), m < j → (D.pyL ds)[m]? = some z' → PyData.eqv z' x.py = false) (p : P (.da (.int (j : Nat))) o) : AM B (rIndexD K) (.da (.lst ds)) [.da x] o P := fun F H θ σ ρ v vs k r rs Q q => by
  cases rs with
  | @cons u _ _ _ ry rn =>
    cases rn
    have hv : ∃ a, v = .ref a := by cases r with | lst h _ => exact ⟨_, rfl⟩
    obtain ⟨a, rfl⟩ := hv
    exact ⟨a, u, x.py, D.pyL ds, j, z, rfl, rfl, by have := Dp.mono (K := K) k.fh r (by simpa [D.py, PyData.plain] using pl); rw [D.py] at this; exact this, Dp.mono k.fh ry px, hl, hx, hz, he, hn, q _ _ F H θ o (Tw.refl F H θ) k (RepS.dat (Rep.int _)) p⟩
end
end AB

set_option Elab.async false
set_option linter.all false
set_option maxRecDepth 100000
set_option maxHeartbeats 4000000
set_option autoImplicit false
namespace AB
open PySem L2 PySem.Spec PyProof.Rows He
theorem unit65 {k : Nat} {A : Around} (r : Room (k + 1) A) : A.units + 65 < cLine := by have := r.un; omega
/-- a slice: a list, a text, a tuple -/
def rSlW (K : PySem.W.Frag) : V → Option Int → Option Int → Hp → VK → Prop := fun x lo hi H Q => AB.rSlA K x lo hi H Q ∨ L2.rSlA K x lo hi H Q
theorem sl_W {X : Cx} : SlR X (rSlW X.K) := SlR.or AB.sl_A L2.sl_tupA
section
variable {B : Base} {ρ : R} {o : O} {P : Sl → O → Prop} {K : PySem.W.Frag} {D0 : AD} {te ta tb tc td : TE}
theorem wl_str {z : Str} {lo hi : Option Int} (hl : z.length ≤ sizeLine) (p : P (.da (.str (cutS z lo hi))) o) : A3 B (rSlW K) (.da (.str z)) lo hi o P := fun F H θ σ ρ v k r Q q => .inl (sl_str hl p F H θ σ ρ v k r Q q)
theorem wl_lst {ds : List D} {lo hi : Option Int} (p : P (.da (.lst (cutD ds lo hi))) o) : A3 B (rSlW K) (.da (.lst ds)) lo hi o P := fun F H θ σ ρ v k r Q q => .inl (sl_lst p F H θ σ ρ v k r Q q)
theorem wl_tup {ds : List D} {lo hi : Option Int} (p : P (.da (.tup (cutD ds lo hi))) o) : A3 B (rSlW K) (.da (.tup ds)) lo hi o P := fun F H θ σ ρ v k r Q q => by
  cases r with
  | @tup a xs _ ea rl =>
    refine .inr ⟨a, xs, rfl, SqT.of (k.fh a _ ea), fun hw => ?_, fun _ l n => ?_⟩
    · have e : cutD ds lo hi = ds := by
        unfold cutD
        rw [← rl.len, hw.1, hw.2]
        simp [rl.len]
      rw [e] at p
      exact q _ _ _ _ _ _ (Tw.refl _ _ _) k (RepS.dat (Rep.tup ea rl)) p
    · obtain ⟨t2, k2⟩ := k.put (u := .tup (cutV xs lo hi)) n
      have e : RepL F (cutV xs lo hi) (cutD ds lo hi) := by
        unfold cutV cutD
        rw [rl.len]
        exact (rl.drop _).take _
      exact q _ _ _ _ _ _ t2.w k2 (RepS.dat (Rep.tup upd_same (e.mono t2.ff))) p
theorem wl_lstL {x : Sl} {ds : List D} {lo hi : Option Int} (h : LL o x (ds.map Sl.da)) (p : P (.da (.lst (cutD ds lo hi))) o) : A3 B (rSlW K) x lo hi o P := fun F H θ σ ρ v k r Q q => by
  obtain ⟨a, xs, rfl, ha, rl0⟩ := h.at k r
  have rl := da_all rl0
  refine .inl (.inl ⟨a, xs, rfl, SqL.of ha, fun l n => ?_⟩)
  obtain ⟨t2, k2⟩ := k.put (u := .lst (cutV xs lo hi)) n
  have e : RepL F (cutV xs lo hi) (cutD ds lo hi) := by
    unfold cutV cutD
    rw [rl.len]
    exact (rl.drop _).take _
  exact q _ _ _ _ _ _ t2.w k2 (RepS.dat (Rep.lst upd_same (e.mono t2.ff))) p
/-- list * int -/
theorem RepL.rep {F : Hp} {xs : List V} {ds : List D} (h : RepL F xs ds) : ∀ n : Nat, RepL F (List.replicate n xs).flatten (List.replicate n ds).flatten
  | 0 => .nil
  | n + 1 => by
    rw [List.replicate_succ, List.replicate_succ, List.flatten_cons, List.flatten_cons]
    exact h.app (RepL.rep h n)
theorem o_rep {x : Sl} {ds : List D} {k0 : Int} (h : LL o x (ds.map Sl.da)) (h1 : -(2 ^ 63) ≤ k0) (h2 : k0 < 2 ^ 63) (hz : ds.length * k0.toNat ≤ sizeLine) (p : P (.da (.lst (List.replicate k0.toNat ds).flatten)) o) : A2 B rMulA x (.da (.int k0)) o P := A2.or2 (fun F H θ σ ρ v u k r1 r2 Q q => by
  obtain ⟨a, xs, rfl, ha, rl0⟩ := h.at k r1
  have rl := da_all rl0
  refine ⟨a, k0, xs, rfl, rep_int r2, ha, h1, h2, by rw [rl.len]; exact hz, fun l n => ?_⟩
  obtain ⟨t2, k2⟩ := k.put (u := .lst (List.replicate k0.toNat xs).flatten) n
  exact q _ _ _ _ _ _ t2.w k2 (RepS.dat (Rep.lst upd_same ((rl.rep _).mono t2.ff))) p)
/-- tuple(x) -/
theorem n_tupT {ds : List D} (p : P (.da (.tup ds)) o) : AN B (rTupA K) [.da (.tup ds)] o P := fun F H θ σ ρ vs k r Q q => by
  cases r with
  | cons r rs =>
    cases rs
    cases r with
    | @tup a xs _ ea rl => exact ⟨a, xs, rfl, .inr ⟨SqT.of (k.fh a _ ea), q _ _ _ _ _ _ (Tw.refl _ _ _) k (RepS.dat (Rep.tup ea rl)) p⟩⟩
theorem n_tupL {x : Sl} {ds : List D} (h : LL o x (ds.map Sl.da)) (p : P (.da (.tup ds)) o) : AN B (rTupA K) [x] o P := fun F H θ σ ρ vs k r Q q => by
  cases r with
  | cons r rs =>
    cases rs
    obtain ⟨a, xs, rfl, ha, rl0⟩ := h.at k r
    refine ⟨a, xs, rfl, .inl ⟨SqL.of ha, fun l n => ?_⟩⟩
    obtain ⟨t2, k2⟩ := k.put (u := .tup xs) n
    exact q _ _ _ _ _ _ t2.w k2 (RepS.dat (Rep.tup upd_same ((da_all rl0).mono t2.ff))) p
/-- isinstance of what reads as a list; of plain data -/
theorem n_isiLL {x : Sl} {ss : List Sl} {n : String} {b : Bool} (h : LL o x ss) (hk : PySem.W.kitOne K (.type "list") (.type n) = some b) (p : P (.da (.bl b)) o) : AN B (rIsi K) [x, .da (.raw (.ty n))] o P := n_isi (fun F H θ σ ρ v u k r1 r2 => by
  obtain ⟨a, xs, rfl, ha, _⟩ := h.at k r1
  cases r2
  exact ⟨_, _, .ty _, .base (.lst ha), hk⟩) p
/-- a known object becomes an own one -/
theorem Ok.adopt {F H : Hp} {θ : List Addr} {σ : L2.St} {l : Addr} {u : HO} {w : OO} (k : Ok B F H θ σ ρ o) (hn : B.H l = none) (h0 : H l = some u) (hf : F l = none) (hm : l ∉ θ) (r : RepO F H (θ ++ [l]) l w) : Ok B F H (θ ++ [l]) σ ρ (o ++ [w]) := by
  have cut : ∀ (j : Nat) a w', (θ ++ [l])[j]? = some a → (o ++ [w])[j]? = some w' → (θ[j]? = some a ∧ o[j]? = some w') ∨ (a = l ∧ w' = w) := fun j a w' h1 h2 => by
    by_cases hj : j < θ.length
    · rw [List.getElem?_append_left hj] at h1
      rw [List.getElem?_append_left (by rw [← k.len]; exact hj)] at h2
      exact .inl ⟨h1, h2⟩
    · rw [List.getElem?_append_right (by omega)] at h1
      rw [List.getElem?_append_right (by rw [← k.len]; omega), ← k.len] at h2
      cases e : j - θ.length with
      | zero =>
        rw [e] at h1 h2
        simp at h1 h2
        exact .inr ⟨h1.symm, h2.symm⟩
      | succ m => rw [e] at h1; simp at h1
  have pre : ∃ t, θ ++ [l] = θ ++ t := ⟨[l], rfl⟩
  refine ⟨⟨k.tr.ff, ?_, k.tr.kp, k.tr.th, k.tr.nw, fun a h => ?_⟩, k.fh, by simp [k.len], ?_, fun j a w' h1 h2 h3 => ?_, fun j a w' h1 h2 => ?_, k.sl.mono (Ex.refl _) pre⟩
  · obtain ⟨t, ht⟩ := k.tr.pre
    exact ⟨t ++ [l], by rw [ht, List.append_assoc]⟩
  · rcases List.mem_append.mp h with h | h
    · exact k.tr.nt a h
    · have e : a = l := by simpa using h
      subst e
      exact .inr hn
  · rw [List.nodup_append]
    exact ⟨k.nd, by simp, fun a ha b hb e => by
      have e' : b = l := by simpa using hb
      rw [e, e'] at ha
      exact hm ha⟩
  · rcases cut j a w' h1 h2 with ⟨h1, h2⟩ | ⟨rfl, rfl⟩
    · exact k.fr j a w' h1 h2 h3
    · exact hf
  · rcases cut j a w' h1 h2 with ⟨h1, h2⟩ | ⟨rfl, rfl⟩
    · exact (k.ob j a w' h1 h2).mono (Ex.refl _) pre
    · exact r
theorem Tw.adopt {F H F' H' : Hp} {θ θ' : List Addr} {l : Addr} (t : Tw F H θ F' H' θ') (hn : H l = none) : Tw F H θ F' H' (θ' ++ [l]) := by
  refine ⟨t.ff, ?_, t.kp, t.th, fun a h => ?_, t.nf⟩
  · obtain ⟨u, hu⟩ := t.pre
    exact ⟨u ++ [l], by rw [hu, List.append_assoc]⟩
  · rcases List.mem_append.mp h with h | h
    · exact t.nt a h
    · have e : a = l := by simpa using h
      subst e
      exact .inr hn
section
variable {tt : TT} {vs : List Nat} {g : TG}
/-- the list of a comprehension, own -/
theorem lc_endO {Pv : List D → O → Prop} {F H F1 H1 : Hp} {θ θ1 : List Addr} {σ : L2.St} {l : Addr} {H' : Hp} {Q : VK} (t1 : Tw F H θ F1 H1 θ1) (hn1 : H1 l = none) (hnB : B.H l = none) (q : ∀ v s F' H' θ' o', Tw F H θ F' H' θ' → Ok B F' H' θ' σ ρ o' → RepS F' θ' v s → P s o' → Q v H')
    (hd : ∀ acc o', Pv acc o' → P (.ow o'.length) (o' ++ [.lst (acc.map Sl.da)])) (w : ∃ F' θ' acc o', Tw F1 H1 θ1 F' H' θ' ∧ Ok B F' H' θ' σ ρ o' ∧ Pv acc o' ∧ Made F' H' θ' l acc) : Q (.ref l) H' := by
  obtain ⟨F', θ', acc, o', t, k', p, m⟩ := w
  obtain ⟨us, h1, h2⟩ := m.at_
  have k2 := k'.adopt (w := .lst (acc.map Sl.da)) hnB h1 m.fr m.nm ⟨us, h1, all_da h2⟩
  exact q _ _ _ _ _ _ (t1.trans (t.adopt hn1)) k2 (RepS.own (by rw [← k'.len]; simp)) (hd acc o' p)
theorem e_lcR1O {t : TA} (h : AA B t ρ o fun xs o1 => ∃ j : Int, xs = [.da (.int j)] ∧ -(2 ^ 62) ≤ j ∧ j < 2 ^ 62 ∧ ∃ Pv : Nat → List D → O → Prop, Pv 0 [] o1 ∧ (∀ i acc o', Pv i acc o' → acc.length ≤ 1000000) ∧
    (∀ (i : Nat) acc o', i < j.toNat → Pv i acc o' → AGW B g vs (.da (.int (i : Int))) (wipeR ρ vs) o' fun ρ2 o2 => AT B tt ρ2 o2 fun b o3 => if b = true then AE B te ρ2 o3 fun y o4 => ∃ e, y = .da e ∧ Pv (i + 1) (acc ++ [e]) o4 else Pv (i + 1) acc o3) ∧
    ∀ acc o', Pv j.toNat acc o' → P (.ow o'.length) (o' ++ [.lst (acc.map Sl.da)])) : AE B (tLc (iRng1 t) g tt te vs) ρ o P := by
  intro F H θ σ k Q q
  refine h F H θ σ k _ fun us xs F1 H1 θ1 o1 t1 k1 r1 p1 => ?_
  obtain ⟨j, rfl, hb1, hb2, Pv, h0, few, turn, hd⟩ := p1
  cases r1 with
  | cons r rs =>
  cases rs
  have e := rep_int r
  subst e
  refine ⟨j, rfl, hb1, hb2, fun l hn => ?_⟩
  have hnB : B.H l = none := k1.tr.th l hn
  refine lc_range (lo := 0) (n := j.toNat) (fun i H' => LcI B F1 H1 θ1 σ ρ l Pv i H') (lc_start k1 hn h0) (fun i H' hi w => ?_) (fun H' w => ?_)
  · exact lc_turn (d := .int (i : Int)) (tt := tt) (te := te) hn hnB few (turn i · · hi) w (fun F' θ' t => by rw [Int.zero_add]; exact Rep.int _)
  · obtain ⟨F', θ', acc, o', t, k', p, m⟩ := w
    exact lc_endO (Pv := Pv j.toNat) t1 hn hnB q hd ⟨F', θ', acc, o', t, k', p, m⟩
end
/-- a new own instance with an own dict in a field: both come to stay -/
theorem e_frzI (f : Str) (h : AE B te ρ o fun s o1 => ∃ j n C l w d ds, s = .ow j ∧ B.θ.length ≤ j ∧ B.θ.length ≤ n ∧ n ≠ j ∧ o1[j]? = some (.ins C l) ∧ l.lookup f = some (.ow n) ∧ o1[n]? = some w ∧ Frz w d ∧ putG f (.da d) l = ds.map (fun p => (p.1, Sl.da p.2)) ∧ P (.da (.ins C ds)) ((o1.set n .gone).set j .gone)) : AE B te ρ o P := fun F H θ σ k Q q =>
  h F H θ σ k Q fun v s F1 H1 θ1 o1 t1 k1 r1 p => by
    obtain ⟨j, n, C, l, w, d, ds, rfl, hb, hbn, hne, hj, hl, ho, fz, e, p⟩ := p
    obtain ⟨a, F2, ha, k2, t2, r2⟩ := k1.frzD hbn ho fz
    have hj' : (o1.set n .gone)[j]? = some (.ins C l) := by rw [List.getElem?_set_ne hne]; exact hj
    have k3 := k2.reown (w' := .ins C (putG f (.da d) l)) hj' (fun z => by cases z) fun b hb2 hr => by
      obtain ⟨dx, fs, h1, h2⟩ := hr
      refine ⟨dx, fs, h1, RepSF.swap (fun v r => ?_) h2 hl⟩
      obtain ⟨a', rfl, ha'⟩ := r
      rw [ha] at ha'
      cases ha'
      exact RepS.dat r2
    rw [e] at k3
    have hj3 : ((o1.set n .gone).set j (.ins C (ds.map fun p => (p.1, Sl.da p.2))))[j]? = some (.ins C (ds.map fun p => (p.1, Sl.da p.2))) := List.getElem?_set_self (List.getElem?_eq_some_iff.mp hj').1
    obtain ⟨a4, F4, ha4, k4, t4, r4⟩ := k3.frzD hb hj3 (Frz.ins C ds)
    obtain ⟨a', rfl, ha'⟩ := r1
    rw [ha4] at ha'
    cases ha'
    rw [List.set_set] at k4
    exact q _ _ F4 H1 θ1 _ ((t1.trans t2).trans t4) k4 (RepS.dat r4) p
end
end AB

set_option Elab.async false
set_option linter.all false
set_option maxRecDepth 100000
set_option maxHeartbeats 4000000
set_option autoImplicit false
namespace AB
open PySem L2 PySem.Spec PyProof.Rows He
/-! ### plain data of plans -/
def optD : Option Int → D
  | none => .non
  | some i => .int i
abbrev optS : Option Str → D := optSD
def txs (l : List Str) : List D := l.map D.str
abbrev sls (l : List Str) : List Sl := (txs l).map Sl.da
def inF (c : Nat) : Bool := decide (97 ≤ c ∧ c ≤ 122)
def inR (c : Nat) : Bool := decide ((97 ≤ c ∧ c ≤ 122) ∨ (48 ≤ c ∧ c ≤ 57) ∨ c = 46)
def isW (w : Str) : Bool := decide (1 ≤ w.length ∧ w.length ≤ 12) && (((w.cps.toList.head?).map inF).getD false && (!(decide (w = ("if" : Str)) || decide (w = ("unless" : Str))) && w.cps.toList.all inR))
def farN (n : Option Int) : Bool := match n with
  | none => false
  | some i => decide (1000000000 < i) || decide (i < -1000000000)
structure DR where
  n : Str
  h : Int
  m : Int
  lo : Int
  hi : Int
structure LR where
  s : Int
  st : Int
  r : Int
  ar : Int
  yes : List Str
  no : List Str
structure SR where
  mis : Str
  h : Int
  m : Int
  doing : Option Str
  reach : Int
structure RR where
  n : Option Str
  b : Option Str
  plus : Int
  yes : List Str
  no : List Str
structure Wo where
  hc : Int
  last : Int
  ms : List Str
  cs : List (List Str)
  ds : List DR
  rs : List RR
  ss : List SR
  ls : List LR
abbrev DR.d (r : DR) : D := .tup [.str r.n, .int r.h, .int r.m, .int r.lo, .int r.hi]
abbrev LR.d (r : LR) : D := .tup [.int r.s, .int r.st, .int r.r, .int r.ar, .lst (txs r.yes), .lst (txs r.no)]
abbrev SR.d (r : SR) : D := .tup [.str r.mis, .int r.h, .int r.m, optS r.doing, .int r.reach]
abbrev RR.d (r : RR) : D := .tup [optS r.n, optS r.b, .int r.plus, .lst (txs r.yes), .lst (txs r.no)]
def csD (cs : List (List Str)) : List D := cs.map fun c => D.lst (txs c)
abbrev Wo.parts (w : Wo) : List D := [.int w.hc, .int w.last, .lst (txs w.ms), .lst (csD w.cs), .lst (w.ds.map DR.d), .lst (w.rs.map RR.d), .lst (w.ss.map SR.d), .lst (w.ls.map LR.d)]
abbrev worldD (w : Wo) : D := .lst w.parts
def putD (l : List (Key × D)) (k : Key) (d : D) : List (Key × D) := if (l.any fun kv => decide (kv.1 = k)) = true then l.map (fun kv => if kv.1 = k then (kv.1, d) else kv) else l ++ [(k, d)]
def dsl (l : List (Key × D)) : List (Key × Sl) := l.map fun p => (p.1, Sl.da p.2)
def places (ds : List DR) : List (Key × D) := ds.foldl (fun l r => putD l (.inr r.n) (.int l.length)) []
def Wo.rows (w : Wo) : List (Str × D) := [("helper_count", .int w.hc), ("last_moment", .int w.last), ("mishap_words", .lst (txs w.ms)), ("course_rows", .lst (csD w.cs)), ("decision_rows", .lst (w.ds.map DR.d)), ("rule_rows", .lst (w.rs.map RR.d)), ("sight_rows", .lst (w.ss.map SR.d)), ("letter_rows", .lst (w.ls.map LR.d))]
def Wo.fields (w : Wo) : List (Str × D) := w.rows ++ ([("decision_places", .dic (places w.ds))] : List (Str × D))
abbrev planD (K : PySem.W.Frag) (w : Wo) : D := .ins (ga K "Plan") w.fields
/-! ### a right plan -/
structure Sd (ms yes no : List Str) : Prop where
  y : yes.Sublist ms
  n : no.Sublist ms
  d : ∀ w, w ∈ yes → w ∉ no
def fit (i : Int) : Prop := -1000000000 ≤ i ∧ i ≤ 1000000000
structure Wo.ok (w : Wo) : Prop where
  h1 : 1 ≤ w.hc
  h8 : w.hc ≤ 8
  t0 : 0 ≤ w.last
  t1 : w.last ≤ 24
  nm : w.ms.length ≤ 6
  nc : w.cs.length ≤ 12
  nd : w.ds.length ≤ 40
  nr : w.rs.length ≤ 200
  ns : w.ss.length ≤ 24
  nl : w.ls.length ≤ 160
  fd : ∀ r, r ∈ w.ds → fit r.lo ∧ fit r.hi
  fr : ∀ r, r ∈ w.rs → fit r.plus
  fs : ∀ r, r ∈ w.ss → fit r.reach
  mw : ∀ m, m ∈ w.ms → isW m = true
  mn : w.ms.Nodup
  c0 : ∃ t, w.cs = [] :: t
  cn : w.cs.Nodup
  cm : ∀ c, c ∈ w.cs → c.Sublist w.ms
  dw : ∀ r, r ∈ w.ds → isW r.n = true ∧ 1 ≤ r.h ∧ r.h ≤ w.hc ∧ 0 ≤ r.m ∧ r.m ≤ w.last ∧ r.lo ≤ r.hi
  dn : (w.ds.map DR.n).Nodup
  rw_ : ∀ r, r ∈ w.rs → (∀ n, r.n = some n → n ∈ w.ds.map DR.n) ∧ (∀ n, r.b = some n → n ∈ w.ds.map DR.n) ∧ r.n ≠ r.b ∧ Sd w.ms r.yes r.no
  sw : ∀ r, r ∈ w.ss → r.mis ∈ w.ms ∧ 1 ≤ r.h ∧ r.h ≤ w.hc ∧ 0 ≤ r.m ∧ r.m ≤ w.last ∧ (r.doing = none → r.reach = 0) ∧ (∀ n, r.doing = some n → ∃ d, d ∈ w.ds ∧ d.n = n ∧ d.h = r.h ∧ d.m < r.m)
  lw : ∀ r, r ∈ w.ls → 1 ≤ r.s ∧ r.s ≤ w.hc ∧ 1 ≤ r.r ∧ r.r ≤ w.hc ∧ r.s ≠ r.r ∧ 0 ≤ r.st ∧ r.st < r.ar ∧ r.ar ≤ w.last ∧ Sd w.ms r.yes r.no
/-! ### contracts: bounds and rows -/
/-- object j is changed, others come -/
structure Fi (j : Nat) (o o' : O) : Prop where
  len : o.length ≤ o'.length
  get : ∀ i, i < o.length → i ≠ j → o'[i]? = o[i]?
abbrev xTM (K : PySem.W.Frag) (Xt : Addr → List (Str × D) → O → Prop) (s : Str) (o : O) : Prop := Xt (ga K "TooMany") [("what", .str s)] o
def c_check_most (K : PySem.W.Frag) : Con := fun ss o Rt Xt => ∃ (w : Str) (m n : Int), ss = [.da (.str w), .da (.int m), .da (.int n)] ∧ (n < m → Xt (ga K "TooMany") [("what", .str w)] o) ∧ (¬ n < m → Rt (.da .non) o)
def c_check_numbers (K : PySem.W.Frag) : Con := fun ss o Rt Xt => ∃ (x : Sl) (ns : List Int), ss = [x, .da (.int 1000000000)] ∧ LL o x ((ns.map D.int).map Sl.da) ∧ ((ns.any fun i => farN (some i)) = true → Xt (ga K "TooMany") [("what", .str "numbers")] o) ∧ ((ns.any fun i => farN (some i)) = false → Rt (.da .non) o)
def c_is_word (K : PySem.W.Frag) : Con := fun ss o Rt _ => ∃ w : Str, ss = [.da (.str w)] ∧ w.length ≤ sizeLine ∧ Rt (.da (.bl (isW w))) o
/-- bounds kept -/
def c_check_bounds (K : PySem.W.Frag) : Con := fun ss o Rt _ => ∃ (w : Wo) (x : Sl), ss = [.da (.int w.hc), .da (.int w.last), x, .da (.lst (w.ds.map DR.d)), .da (.lst (w.rs.map RR.d)), .da (.lst (w.ss.map SR.d))] ∧ w.ok ∧
  LL o x [.da (.int w.ms.length), .da (.int w.cs.length), .da (.int w.ds.length), .da (.int w.rs.length), .da (.int w.ss.length), .da (.int w.ls.length)] ∧ ∀ o', Fp o o' → Rt (.da .non) o'
def c_in_order (K : PySem.W.Frag) : Con := fun ss o Rt _ => ∃ (ws ms : List Str), ss = [.da (.lst (txs ws)), .da (.lst (txs ms))] ∧ ws.Sublist ms ∧ ms.Nodup ∧ (∀ m, m ∈ ms → isW m = true) ∧ Rt (.da (.bl true)) o
def c_are_sides (K : PySem.W.Frag) : Con := fun ss o Rt _ => ∃ (yes no ms : List Str), ss = [.da (.lst (txs yes)), .da (.lst (txs no)), .da (.lst (txs ms))] ∧ Sd ms yes no ∧ ms.Nodup ∧ (∀ m, m ∈ ms → isW m = true) ∧ Rt (.da (.bl true)) o
def c_check_mishaps (K : PySem.W.Frag) : Con := fun ss o Rt _ => ∃ (ms : List Str), ss = [.da (.lst (txs ms))] ∧ ms.Nodup ∧ ms.length ≤ 1000 ∧ (∀ m, m ∈ ms → isW m = true) ∧ Rt (.da .non) o
def c_check_courses (K : PySem.W.Frag) : Con := fun ss o Rt _ => ∃ (cs : List (List Str)) (ms : List Str), ss = [.da (.lst (csD cs)), .da (.lst (txs ms))] ∧ cs.Nodup ∧ cs.length ≤ 1000 ∧ (∃ t, cs = [] :: t) ∧ (∀ c, c ∈ cs → c.Sublist ms) ∧ ms.Nodup ∧ (∀ m, m ∈ ms → isW m = true) ∧ Rt (.da .non) o
def c_check_decisions (K : PySem.W.Frag) : Con := fun ss o Rt _ => ∃ (w : Wo), ss = [.da (.lst (w.ds.map DR.d)), .da (.int w.hc), .da (.int w.last)] ∧ w.ok ∧ ∀ o', Fp o o' → Rt (.da .non) o'
def c_check_rules (K : PySem.W.Frag) : Con := fun ss o Rt _ => ∃ (w : Wo), ss = [.da (.lst (w.rs.map RR.d)), .da (.lst (txs (w.ds.map DR.n))), .da (.lst (txs w.ms))] ∧ w.ok ∧ ∀ o', Fp o o' → Rt (.da .non) o'
def c_check_sights (K : PySem.W.Frag) : Con := fun ss o Rt _ => ∃ (w : Wo), ss = [.da (.lst (w.ss.map SR.d)), .da (.lst (w.ds.map DR.d)), .da (.int w.hc), .da (.int w.last), .da (.lst (txs w.ms))] ∧ w.ok ∧ ∀ o', Fp o o' → Rt (.da .non) o'
def c_check_letters (K : PySem.W.Frag) : Con := fun ss o Rt _ => ∃ (w : Wo), ss = [.da (.lst (w.ls.map LR.d)), .da (.int w.hc), .da (.int w.last), .da (.lst (txs w.ms))] ∧ w.ok ∧ Rt (.da .non) o
/-! ### contracts: the class Plan -/
def daF (l : List (Str × D)) : List (Str × Sl) := l.map fun p => (p.1, Sl.da p.2)
def c_Plan_check_rows (K : PySem.W.Frag) : Con := fun ss o Rt _ => ∃ (w : Wo) (j : Nat), ss = [.ow j] ∧ w.ok ∧ o[j]? = some (.ins (ga K "Plan") (daF w.rows)) ∧ ∀ o', Fp o o' → Rt (.da .non) o'
def c_Plan_init (K : PySem.W.Frag) : Con := fun ss o Rt _ => ∃ (w : Wo) (j : Nat), ss = .ow j :: w.parts.map Sl.da ∧ w.ok ∧ o[j]? = some (.ins (ga K "Plan") []) ∧
  ∀ (n : Nat) o', Fi j o o' → o.length ≤ n → o'[j]? = some (.ins (ga K "Plan") (daF w.rows ++ ([("decision_places", .ow n)] : List (Str × Sl)))) → o'[n]? = some (.dic (dsl (places w.ds))) → Rt (.da .non) o'
abbrev c_get (K : PySem.W.Frag) (f : Wo → D) : Con := fun ss o Rt _ => ∃ w : Wo, ss = [.da (planD K w)] ∧ w.ok ∧ Rt (.da (f w)) o
def c_Plan_helpers (K : PySem.W.Frag) : Con := fun ss o Rt _ => ∃ w : Wo, ss = [.da (planD K w)] ∧ Rt (.da (.int w.hc)) o
def c_Plan_last (K : PySem.W.Frag) : Con := fun ss o Rt _ => ∃ w : Wo, ss = [.da (planD K w)] ∧ Rt (.da (.int w.last)) o
def c_Plan_mishaps (K : PySem.W.Frag) : Con := fun ss o Rt _ => ∃ w : Wo, ss = [.da (planD K w)] ∧ Rt (.da (.lst (txs w.ms))) o
def c_Plan_courses (K : PySem.W.Frag) : Con := fun ss o Rt _ => ∃ w : Wo, ss = [.da (planD K w)] ∧ w.ok ∧ Rt (.da (.lst (csD w.cs))) o
def c_Plan_decisions (K : PySem.W.Frag) : Con := fun ss o Rt _ => ∃ w : Wo, ss = [.da (planD K w)] ∧ Rt (.da (.lst (w.ds.map DR.d))) o
def c_Plan_rules (K : PySem.W.Frag) : Con := fun ss o Rt _ => ∃ w : Wo, ss = [.da (planD K w)] ∧ w.ok ∧ Rt (.da (.lst (w.rs.map RR.d))) o
def c_Plan_sights (K : PySem.W.Frag) : Con := fun ss o Rt _ => ∃ w : Wo, ss = [.da (planD K w)] ∧ Rt (.da (.lst (w.ss.map SR.d))) o
def c_Plan_letters (K : PySem.W.Frag) : Con := fun ss o Rt _ => ∃ w : Wo, ss = [.da (planD K w)] ∧ w.ok ∧ Rt (.da (.lst (w.ls.map LR.d))) o
def c_Plan_names (K : PySem.W.Frag) : Con := fun ss o Rt _ => ∃ w : Wo, ss = [.da (planD K w)] ∧ w.ok ∧ Rt (.da (.lst (txs (w.ds.map DR.n)))) o
/-- a name's place -/
def plc (ds : List DR) (n : Str) : Nat := (ds.map DR.n).idxOf n
def c_Plan_place (K : PySem.W.Frag) : Con := fun ss o Rt Xt => ∃ (w : Wo) (n : Str), ss = [.da (planD K w), .da (.str n)] ∧ w.ok ∧ (n ∉ w.ds.map DR.n → Xt (ga K "BadNames") [("words", .lst [.str n])] o) ∧ (n ∈ w.ds.map DR.n → Rt (.da (.int (plc w.ds n))) o)
def holdsB (c yes no : List Str) : Bool := yes.all (fun w => decide (w ∈ c)) && no.all (fun w => !decide (w ∈ c))
def c_Plan_holds (K : PySem.W.Frag) : Con := fun ss o Rt _ => ∃ (w : Wo) (c : Int) (r yes no : List Str), ss = [.da (planD K w), .da (.int c), .da (.lst (txs yes)), .da (.lst (txs no))] ∧ atI w.cs c = some r ∧ Rt (.da (.bl (holdsB r yes no))) o
/-- numbers of the letters that hold in a course -/
def carr (w : Wo) (r : List Str) : List Nat := (List.range w.ls.length).filter fun i => match w.ls[i]? with
  | some l => holdsB r l.yes l.no
  | none => false
def natD (l : List Nat) : List D := l.map fun (n : Nat) => D.int n
def c_Plan_carried (K : PySem.W.Frag) : Con := fun ss o Rt Xt => ∃ (w : Wo) (c : Int), ss = [.da (planD K w), .da (.int c)] ∧ w.ok ∧ (¬(0 ≤ c ∧ c < w.cs.length) → Xt (ga K "BadCourse") [("number", .int c)] o) ∧
  (∀ r, 0 ≤ c → atI w.cs c = some r → ∀ (i : Nat) o', Fp o o' → o.length ≤ i → o'[i]? = some (.lst ((natD (carr w r)).map Sl.da)) → Rt (.ow i) o')
/-! ### contracts: checks of arguments -/
def c_check_name (K : PySem.W.Frag) : Con := fun ss o Rt Xt => ∃ (w : Wo) (n : Str), ss = [.da (planD K w), .da (.str n)] ∧ w.ok ∧ (n ∉ w.ds.map DR.n → Xt (ga K "BadNames") [("words", .lst [.str n])] o) ∧ (n ∈ w.ds.map DR.n → Rt (.da .non) o)
def c_check_moment (K : PySem.W.Frag) : Con := fun ss o Rt Xt => ∃ (w : Wo) (m : Int), ss = [.da (planD K w), .da (.int m)] ∧ (¬(0 ≤ m ∧ m ≤ w.last) → Xt (ga K "BadMoment") [("moment", .int m)] o) ∧ (0 ≤ m → m ≤ w.last → Rt (.da .non) o)
def c_check_helper (K : PySem.W.Frag) : Con := fun ss o Rt Xt => ∃ (w : Wo) (m : Int), ss = [.da (planD K w), .da (.int m)] ∧ (¬(1 ≤ m ∧ m ≤ w.hc) → Xt (ga K "BadMoment") [("moment", .int m)] o) ∧ (1 ≤ m → m ≤ w.hc → Rt (.da .non) o)
/-! ### contracts: draws, words, sides, letters of a law -/
def sp__law_purse (K : PySem.W.Frag) : Sp := fun vs H Q _ => ∃ (a : Addr) (ns : List Int), vs = [.ref a, .int 0] ∧ SqL K H a (ns.map V.int) ∧ ns.length ≤ 1000 ∧ ∀ (p q r : Int) (H' : Hp) (l : Addr), Ex H H' → H' l = none → Q (.ref l) (upd H' l (.lst [.int p, .int q, .int r]))
def c__law_draw (K : PySem.W.Frag) : Con := c_draw
def c__law_word (K : PySem.W.Frag) : Con := fun ss o Rt _ => ∃ (j : Nat) (x : Sl) (taken : List Str), ss = [.ow j, x] ∧ Pu o j ∧ x ≠ .ow j ∧ LL o x (sls taken) ∧ taken.length ≤ 50 ∧ ∀ (w : Str) o', isW w = true → w ∉ taken → Fj j o o' → Rt (.da (.str w)) o'
def c__law_words (K : PySem.W.Frag) : Con := fun ss o Rt _ => ∃ (j : Nat) (n : Int), ss = [.ow j, .da (.int n)] ∧ Pu o j ∧ 0 ≤ n ∧ n ≤ 50 ∧ ∀ (ws : List Str) o', (∀ w, w ∈ ws → isW w = true) → ws.Nodup → ws.length = n.toNat → Fj j o o' → Rt (.da (.lst (txs ws))) o'
def c__law_sides (K : PySem.W.Frag) : Con := fun ss o Rt _ => ∃ (j : Nat) (l : List Str), ss = [.ow j, .da (.lst (txs l))] ∧ Pu o j ∧ l.length ≤ 1000 ∧ l.Nodup ∧ ∀ (yes no : List Str) o', Sd l yes no → Fj j o o' → Rt (.da (.lst [.lst (txs yes), .lst (txs no)])) o'
/-- a right letter -/
def lrOk (hc last : Int) (ms : List Str) (r : LR) : Prop := 1 ≤ r.s ∧ r.s ≤ hc ∧ 1 ≤ r.r ∧ r.r ≤ hc ∧ r.s ≠ r.r ∧ 0 ≤ r.st ∧ r.st < r.ar ∧ r.ar ≤ last ∧ Sd ms r.yes r.no
def c__law_letters (K : PySem.W.Frag) : Con := fun ss o Rt _ => ∃ (j : Nat) (hc last : Int) (ms : List Str) (n : Int), ss = [.ow j, .da (.int hc), .da (.int last), .da (.lst (txs ms)), .da (.int n)] ∧ Pu o j ∧ 2 ≤ hc ∧ hc ≤ 8 ∧ 1 ≤ last ∧ last ≤ 24 ∧ ms.Nodup ∧ ms.length ≤ 6 ∧ 0 ≤ n ∧ n ≤ 160 ∧
  ∀ (ls : List LR) o', (∀ r, r ∈ ls → lrOk hc last ms r) → ls.length = n.toNat → Fj j o o' → Rt (.da (.lst (ls.map LR.d))) o'
def c__law_plan (K : PySem.W.Frag) : Con := fun ss o Rt _ => ∃ (w : Wo), ss = [.da (worldD w)] ∧ w.ok ∧ ∀ o', Fp o o' → Rt (.da (planD K w)) o'
/-- what stands for a datum: itself, an own list of data -/
def MV (o : O) (x : Sl) (d : D) : Prop := x = .da d ∨ ∃ ds, d = .lst ds ∧ LL o x (ds.map Sl.da)
def Mt : Nat → D → Prop
  | 0, _ => False
  | n + 1, d => match d with
    | .tup l => l.length ≤ 1000000 ∧ ∀ x, x ∈ l → Mt n x
    | .lst l => l.length ≤ 1000000 ∧ ∀ x, x ∈ l → Mt n x
    | .non => True
    | .bl _ => True
    | .int _ => True
    | .str _ => True
    | _ => False
def cM (n : Nat) : Con := fun ss o Rt _ => ∃ (x y : Sl) (d : D), ss = [x, y] ∧ MV o x d ∧ MV o y d ∧ Mt n d ∧ Rt (.da (.bl true)) o
def c__law_matches (K : PySem.W.Frag) : Con := cM 4
end AB

set_option Elab.async false
set_option linter.all false
set_option maxRecDepth 100000
set_option maxHeartbeats 4000000
set_option autoImplicit false
namespace AB
open PySem L2 PySem.Spec PyProof.Rows He
variable {K : PySem.W.Frag} {B : Base} {W : WX} {ss : List Sl} {o : O} {Rt : Sl → O → Prop} {Xt : Addr → List (Str × D) → O → Prop}
theorem exd0 {Q : List D → Prop} (h : Q []) : ∃ ds : List D, [] = ds.map Sl.da ∧ ds.length ≤ sizeLine ∧ Q ds := ⟨[], rfl, by rw [sizeLine_eq]; exact Nat.le_of_ble_eq_true rfl, h⟩
theorem exd1 {a : D} {Q : List D → Prop} (h : Q [a]) : ∃ ds : List D, [Sl.da a] = ds.map Sl.da ∧ ds.length ≤ sizeLine ∧ Q ds := ⟨[a], rfl, by rw [sizeLine_eq]; exact Nat.le_of_ble_eq_true rfl, h⟩
theorem exd2 {a b : D} {Q : List D → Prop} (h : Q [a, b]) : ∃ ds : List D, [Sl.da a, Sl.da b] = ds.map Sl.da ∧ ds.length ≤ sizeLine ∧ Q ds := ⟨[a, b], rfl, by rw [sizeLine_eq]; exact Nat.le_of_ble_eq_true rfl, h⟩
theorem exd3 {a b c : D} {Q : List D → Prop} (h : Q [a, b, c]) : ∃ ds : List D, [Sl.da a, Sl.da b, Sl.da c] = ds.map Sl.da ∧ ds.length ≤ sizeLine ∧ Q ds := ⟨[a, b, c], rfl, by rw [sizeLine_eq]; exact Nat.le_of_ble_eq_true rfl, h⟩
theorem exd4 {a b c d : D} {Q : List D → Prop} (h : Q [a, b, c, d]) : ∃ ds : List D, [Sl.da a, Sl.da b, Sl.da c, Sl.da d] = ds.map Sl.da ∧ ds.length ≤ sizeLine ∧ Q ds := ⟨[a, b, c, d], rfl, by rw [sizeLine_eq]; exact Nat.le_of_ble_eq_true rfl, h⟩
theorem exd5 {a b c d e : D} {Q : List D → Prop} (h : Q [a, b, c, d, e]) : ∃ ds : List D, [Sl.da a, Sl.da b, Sl.da c, Sl.da d, Sl.da e] = ds.map Sl.da ∧ ds.length ≤ sizeLine ∧ Q ds := ⟨[a, b, c, d, e], rfl, by rw [sizeLine_eq]; exact Nat.le_of_ble_eq_true rfl, h⟩
theorem exd6 {a b c d e f : D} {Q : List D → Prop} (h : Q [a, b, c, d, e, f]) : ∃ ds : List D, [Sl.da a, Sl.da b, Sl.da c, Sl.da d, Sl.da e, Sl.da f] = ds.map Sl.da ∧ ds.length ≤ sizeLine ∧ Q ds := ⟨[a, b, c, d, e, f], rfl, by rw [sizeLine_eq]; exact Nat.le_of_ble_eq_true rfl, h⟩
abbrev Wf (t : TS) (N : Nat) (B : Base) (ss : List Sl) (o : O) (Rt : Sl → O → Prop) : Prop := WS B t { nx := fun _ o => Rt (.da .non) o, rt := Rt } (ss.map some ++ List.replicate (N - ss.length) none) o
theorem o_isNotI {i : Int} {B : Base} {o : O} {P : Sl → O → Prop} (p : P (.da (.bl true)) o) : A2 B rIsNotA (.da (.int i)) (.da .non) o P := o_isNot (fun _ z => by cases z) p
theorem o_isNotN {B : Base} {o : O} {P : Sl → O → Prop} (p : P (.da (.bl false)) o) : A2 B rIsNotA (.da .non) (.da .non) o P := o_isNot (fun _ z => by cases z) p
theorem o_isNotS {i : Str} {B : Base} {o : O} {P : Sl → O → Prop} (p : P (.da (.bl true)) o) : A2 B rIsNotA (.da (.str i)) (.da .non) o P := o_isNot (fun _ z => by cases z) p
theorem o_isI {i : Int} {B : Base} {o : O} {P : Sl → O → Prop} (p : P (.da (.bl false)) o) : A2 B rIsA (.da (.int i)) (.da .non) o P := o_is (fun _ z => by cases z) p
theorem o_isN {B : Base} {o : O} {P : Sl → O → Prop} (p : P (.da (.bl true)) o) : A2 B rIsA (.da .non) (.da .non) o P := o_is (fun _ z => by cases z) p
theorem o_isS {i : Str} {B : Base} {o : O} {P : Sl → O → Prop} (p : P (.da (.bl false)) o) : A2 B rIsA (.da (.str i)) (.da .non) o P := o_is (fun _ z => by cases z) p
theorem o_isT {i : List D} {B : Base} {o : O} {P : Sl → O → Prop} (p : P (.da (.bl false)) o) : A2 B rIsA (.da (.tup i)) (.da .non) o P := o_is (fun _ z => by cases z) p
theorem ex2 {x y : Sl} {Q : Sl → Sl → Prop} (h : Q x y) : ∃ x' y', [x, y] = [x', y'] ∧ Q x' y' := ⟨x, y, rfl, h⟩
theorem eqv_int {x y : Int} : PyData.eqv (.int x) (.int y) = decide (x = y) := by simp [PyData.eqv, Bool.beq_eq_decide_eq]
theorem o_eqI {K : PySem.W.Frag} {B : Base} {o : O} {P : Sl → O → Prop} {i j : Int} (p : P (.da (.bl (decide (i = j)))) o) : A2 B (rEqP K) (.da (.int i)) (.da (.int j)) o P := o_eq rfl rfl (by simp [D.py, PyData.depth]) (by show P (.da (.bl (PyData.eqv (.int i) (.int j)))) o; rw [eqv_int]; exact p)
theorem o_neI {K : PySem.W.Frag} {B : Base} {o : O} {P : Sl → O → Prop} {i j : Int} (p : P (.da (.bl (!decide (i = j)))) o) : A2 B (rNeP K) (.da (.int i)) (.da (.int j)) o P := o_ne rfl rfl (by simp [D.py, PyData.depth]) (by show P (.da (.bl (!PyData.eqv (.int i) (.int j)))) o; rw [eqv_int]; exact p)
theorem sgnF {c : Nat} : decide (c ∈ (("abcdefghijklmnopqrstuvwxyz" : Str)).cps.toList) = inF c := by
  have e : (("abcdefghijklmnopqrstuvwxyz" : Str)).cps.toList = List.range' 97 26 := by decide +kernel
  rw [e]
  unfold inF
  congr 1
  simp only [List.mem_range', eq_iff_iff]
  constructor
  · rintro ⟨i, h, rfl⟩; omega
  · intro h; exact ⟨c - 97, by omega, by omega⟩
theorem sgnR {c : Nat} : decide (c ∈ (("abcdefghijklmnopqrstuvwxyz0123456789." : Str)).cps.toList) = inR c := by
  have e : (("abcdefghijklmnopqrstuvwxyz0123456789." : Str)).cps.toList = List.range' 97 26 ++ (List.range' 48 10 ++ [46]) := by decide +kernel
  rw [e]
  unfold inR
  congr 1
  simp only [List.mem_append, List.mem_range', eq_iff_iff, List.mem_singleton]
  constructor
  · rintro (⟨i, h, rfl⟩ | ⟨i, h, rfl⟩ | rfl) <;> omega
  · rintro (h | h | h)
    · exact .inl ⟨c - 97, by omega, by omega⟩
    · exact .inr (.inl ⟨c - 48, by omega, by omega⟩)
    · exact .inr (.inr h)
theorem notKw {w : Str} : ((D.pyL [.str "if", .str "unless"]).any fun z => PyData.eqv z (D.py (.str w))) = (decide (w = ("if" : Str)) || decide (w = ("unless" : Str))) := by
  show (PyData.eqv (.str "if") (.str w) || (PyData.eqv (.str "unless") (.str w) || false)) = _
  rw [eqv_str, eqv_str, Bool.or_false]
  congr 1 <;> (congr 1; exact propext eq_comm)
theorem log_small {n : Nat} (h : n < 2 ^ 64) : n.log2 < 1920 := by
  by_cases h0 : n = 0
  · subst h0; decide
  · exact (Nat.log2_lt h0).mpr (Nat.lt_of_lt_of_le h (Nat.pow_le_pow_right (by decide) (by decide)))
theorem slen_app (x y : Str) : (x ++ y).length = x.length + y.length := by
  show (x.cps ++ y.cps).size = _
  rw [Array.size_append]
  rfl
theorem sizeBig {n : Nat} (h : n ≤ 1000000) : n ≤ sizeLine := by
  rw [sizeLine_eq]
  omega
theorem set_new {o : O} {u v : OO} : (o ++ [u]).set o.length v = o ++ [v] := by
  rw [List.set_append_right _ _ (Nat.le_refl _), Nat.sub_self]
  rfl
theorem e_app {ρ : R} {t : TA} {r jo : Nat} {acc : List D} {P : Sl → O → Prop} (hr : ρ[r]? = some (some (.ow jo))) (ho : o[jo]? = some (.lst (acc.map Sl.da))) (hl : acc.length ≤ 1000000)
    (h : AA B t ρ o fun xs o2 => ∃ d, xs = [.da d] ∧ o2 = o ∧ P (.da .non) (o.set jo (.lst ((acc ++ [d]).map Sl.da)))) : AE B (tBM K "list" rAppend (tVar r) t) ρ o P := by
  refine e_bm ?_
  refine e_var hr ?_
  refine ⟨⟨_, ho⟩, ?_⟩
  intro F H θ σ k Q q
  refine h F H θ σ k Q fun vs xs F' H' θ' o' t' k' r' p => ?_
  obtain ⟨d, rfl, rfl, p⟩ := p
  refine q vs _ F' H' θ' _ t' k' r' (m_append ho (Nat.lt_of_le_of_lt (by rw [List.length_map]; exact hl) (by rw [sizeLine_eq]; decide)) ?_)
  rw [List.map_append] at p
  exact p
theorem set_two {o : O} {u v u' : OO} : (o ++ [u, v]).set o.length u' = o ++ [u', v] := by
  rw [List.set_append_right _ _ (Nat.le_refl _), Nat.sub_self]
  rfl
theorem set_two' {o : O} {u v v' : OO} : (o ++ [u, v]).set (o.length + 1) v' = o ++ [u, v'] := by
  rw [List.set_append_right _ _ (by omega), Nat.add_sub_cancel_left]
  rfl
theorem get_two {o : O} {u v : OO} : (o ++ [u, v])[o.length]? = some u := by simp
theorem get_two' {o : O} {u v : OO} : (o ++ [u, v])[o.length + 1]? = some v := by simp
theorem lk1 {f : Str} {d : D} : List.lookup f [(f, d)] = some d := by simp [List.lookup]
theorem log62 {n : Int} (h0 : 0 < n) (h : n < 2 ^ 62) : n.natAbs.log2 < 9000 := by
  have : n.natAbs.log2 < 1920 := log_small (by omega)
  omega
theorem Fj.one {j : Nat} {a b c : Int} (h : Pu o j) : Fj j o (o.set j (.lst [.da (.int a), .da (.int b), .da (.int c)])) :=
  ⟨by rw [List.length_set]; exact Nat.le_refl _, fun i _ n => List.getElem?_set_ne (fun z => n z.symm), ⟨a, b, c, List.getElem?_set_self h.lt⟩⟩
theorem draw_in {j : Nat} {n : Int} {P : Sl → O → Prop} {X : Addr → List (Str × D) → O → Prop} (n0 : 0 < n) (n1 : n < 2 ^ 62) (pu : Pu o j) (h : ∀ (r : Int) o', 0 ≤ r → r < n → Fj j o o' → P (.da (.int r)) o') : c__law_draw K [.ow j, .da (.int n)] o P X :=
  ⟨j, n, rfl, n0, n1, pu, fun r o' h0 h1 _ f => h r o' h0 h1 f⟩
theorem LL.fj {o o' : O} {x : Sl} {l : List Sl} {j : Nat} (h : LL o x l) (hx : x ≠ .ow j) (f : Fj j o o') : LL o' x l := by
  cases x with
  | ow i => exact f.at h (fun z => hx (by rw [z]))
  | da d => cases d <;> exact h
theorem py_txs : ∀ l : List Str, PyData.plainAll (D.pyL (txs l)) = true
  | [] => rfl
  | s :: r => py_txs r
theorem o_notInLL {x : D} {y : Sl} {ds : List D} {P : Sl → O → Prop} (h : LL o y (ds.map Sl.da)) (hx : x.py.plain = true) (hy : PyData.plainAll (D.pyL ds) = true) (hm : x.py.depth ≤ 60) (p : P (.da (.bl (!((D.pyL ds).any fun z => PyData.eqv z x.py)))) o) : A2 B (rNotInA K) (.da x) y o P := A2.or1 (
  A2.of (z := .da (.bl (!((D.pyL ds).any fun z => PyData.eqv z x.py)))) (fun F H θ σ ρ v u k r1 r2 Q q => by
    obtain ⟨a, xs, rfl, h1, h2⟩ := h.at k r2
    have r3 : Rep H (.ref a) (.lst ds) := Rep.lst h1 ((da_all h2).mono k.fh)
    exact ⟨_, _, (Rep.mono k.fh r1).dp hx, .inl (r3.dp (by simpa [D.py, PyData.plain] using hy)), hx, hy, hm, q _ (Rep.bl _)⟩) p)
abbrev sigs : Str := "abcdefghijklmnopqrstuvwxyz0123456789."
theorem sigLen : sigs.length = 37 := by decide +kernel
theorem sigR : ∀ n : Nat, n < 37 → (sigs.cps.toList[n]?).map inR = some true := by decide +kernel
theorem sigF : ∀ n : Nat, n < 26 → (sigs.cps.toList[n]?).map inF = some true := by decide +kernel
theorem FR {c : Nat} (h : inF c = true) : inR c = true := by
  unfold inF at h
  unfold inR
  simp at h ⊢
  omega
theorem sig_at {r : Int} {f : Nat → Bool} {m : Nat} (hf : ∀ n : Nat, n < m → (sigs.cps.toList[n]?).map f = some true) (h0 : 0 ≤ r) (h1 : r < m) (hm : m ≤ 37) : ∃ c, atI sigs.cps.toList r = some c ∧ f c = true := by
  obtain ⟨n, rfl⟩ := Int.eq_ofNat_of_zero_le h0
  have hn := hf n (by omega)
  obtain ⟨c, hc, hfc⟩ := Option.map_eq_some_iff.mp hn
  refine ⟨c, atI_of (j := n) ?_ hc, hfc⟩
  have hl := (List.getElem?_eq_some_iff.mp hc).1
  unfold ixN
  rw [if_pos h0, if_pos (by omega)]
  rfl
structure isB (s : Str) : Prop where
  hd : ((s.cps.toList.head?).map inF).getD false = true
  al : s.cps.toList.all inR = true
theorem app_toList (x y : Str) : (x ++ y).cps.toList = x.cps.toList ++ y.cps.toList := by
  show (x.cps ++ y.cps).toList = _
  rw [Array.toList_append]
theorem isB.app {x y : Str} (h : isB x) (hy : y.cps.toList.all inR = true) : isB (x ++ y) := by
  obtain ⟨h1, h2⟩ := h
  refine ⟨?_, ?_⟩
  · rw [app_toList]
    cases e : x.cps.toList with
    | nil => rw [e] at h1; simp at h1
    | cons c r => rw [e] at h1; exact h1
  · rw [app_toList, List.all_append, h2, hy]
    rfl
theorem isB.w {s : Str} (h : isB s) (h1 : 1 ≤ s.length) (h2 : s.length ≤ 12) (h3 : (decide (s = ("if" : Str)) || decide (s = ("unless" : Str))) = false) : isW s = true := by
  unfold isW
  rw [h.hd, h.al, h3, decide_eq_true ⟨h1, h2⟩]
  rfl
theorem cut8 (s : Str) : (cutS s none (some 8)).cps.toList = s.cps.toList.take 8 := by
  unfold cutS HT.sIx Str.length
  simp
theorem len_toList (s : Str) : s.length = s.cps.toList.length := by simp [Str.length]
theorem isB.cut {s : Str} (h : isB s) : isB (cutS s none (some 8)) := by
  obtain ⟨h1, h2⟩ := h
  refine ⟨?_, ?_⟩
  · rw [cut8]
    cases e : s.cps.toList with
    | nil => rw [e] at h1; simp at h1
    | cons c r => rw [e] at h1; exact h1
  · rw [cut8]
    rw [List.all_eq_true] at h2 ⊢
    exact fun x hx => h2 x (List.mem_of_mem_take hx)
theorem numR : ∀ n : Nat, n < 60 → (((toString (n : Int) : String) : Str).cps.toList.all inR) = true := by decide +kernel
theorem num59 : 57 ∈ (((toString ((59 : Nat) : Int) : String) : Str).cps.toList) := by decide +kernel
theorem num60 : ∀ n : Nat, n < 60 → ((toString (n : Int) : String) : Str).length ≤ 2 ∧ 1 ≤ ((toString (n : Int) : String) : Str).length := by decide +kernel
theorem kw9 {s : Str} (h : 57 ∈ s.cps.toList) : (decide (s = ("if" : Str)) || decide (s = ("unless" : Str))) = false := by
  have h1 : s ≠ ("if" : Str) := fun e => by
    rw [e] at h
    exact absurd h (by decide +kernel)
  have h2 : s ≠ ("unless" : Str) := fun e => by
    rw [e] at h
    exact absurd h (by decide +kernel)
  rw [decide_eq_false h1, decide_eq_false h2]
  rfl
theorem one_len (c : Nat) : (⟨#[c]⟩ : Str).length = 1 := rfl
theorem e_app2 {ρ : R} {t : TA} {r jo : Nat} {acc : List D} {P : Sl → O → Prop} (hr : ρ[r]? = some (some (.ow jo))) (ho : o[jo]? = some (.lst (acc.map Sl.da))) (hl : acc.length ≤ 1000000)
    (h : AA B t ρ o fun xs o2 => ∃ d, xs = [.da d] ∧ o2[jo]? = some (.lst (acc.map Sl.da)) ∧ P (.da .non) (o2.set jo (.lst ((acc ++ [d]).map Sl.da)))) : AE B (tBM K "list" rAppend (tVar r) t) ρ o P := by
  refine e_bm ?_
  refine e_var hr ?_
  refine ⟨⟨_, ho⟩, ?_⟩
  intro F H θ σ k Q q
  refine h F H θ σ k Q fun vs xs F' H' θ' o' t' k' r' p => ?_
  obtain ⟨d, rfl, ho', p⟩ := p
  refine q vs _ F' H' θ' _ t' k' r' (m_append ho' (Nat.lt_of_le_of_lt (by rw [List.length_map]; exact hl) (by rw [sizeLine_eq]; decide)) ?_)
  rw [List.map_append] at p
  exact p
theorem Fj.lenlt {j : Nat} {o o' : O} (f : Fj j o o') {u : OO} {i : Nat} (h : o'[i]? = some u) : i < o'.length := (List.getElem?_eq_some_iff.mp h).1
theorem txs_app (a : List Str) (w : Str) : txs a ++ [.str w] = txs (a ++ [w]) := by simp [txs]
theorem keyStr (s : Str) : keyD (.inr s) = .str s := rfl
theorem putS_dsl (l : List (Key × D)) (k : Key) (d : D) : putS (dsl l) k (.da d) = dsl (putD l k d) := by
  unfold putS putD dsl
  rw [List.any_map]
  have e : ((fun kv : Key × Sl => decide (kv.1 = k)) ∘ fun p : Key × D => (p.1, Sl.da p.2)) = fun kv : Key × D => decide (kv.1 = k) := rfl
  rw [e]
  split
  · rw [List.map_map, List.map_map]
    refine List.map_congr_left fun p _ => ?_
    show (if p.1 = k then (p.1, Sl.da d) else (p.1, Sl.da p.2)) = ((if p.1 = k then (p.1, d) else p).1, Sl.da (if p.1 = k then (p.1, d) else p).2)
    split <;> rfl
  · rw [List.map_append]
    rfl
theorem putD_len (l : List (Key × D)) (k : Key) (d : D) : (putD l k d).length ≤ l.length + 1 := by
  unfold putD
  split <;> simp
theorem getK_map (k k' : Key) (d : D) : ∀ l : List (Key × D), getK (l.map fun kv => if kv.1 = k then (kv.1, d) else kv) k' = if k = k' then (if (l.any fun kv => decide (kv.1 = k)) = true then some d else none) else getK l k'
  | [] => by simp [getK]
  | (a, x) :: r => by
    have ih := getK_map k k' d r
    unfold getK at ih ⊢
    rw [List.map_cons, List.find?_cons, List.any_cons, List.find?_cons]
    by_cases h1 : a = k
    · subst h1
      by_cases h2 : a = k'
      · subst h2
        simp
      · simp only [h2, if_true, if_false, decide_false] at ih ⊢
        exact ih
    · by_cases h2 : k = k'
      · subst h2
        simp only [h1, if_false, decide_false, Bool.false_or, if_true] at ih ⊢
        exact ih
      · by_cases h3 : a = k'
        · subst h3
          simp [h1, h2]
        · simp only [h1, h2, h3, if_false, decide_false] at ih ⊢
          exact ih
theorem getK_none {k : Key} : ∀ {l : List (Key × D)}, (l.any fun kv => decide (kv.1 = k)) = false → getK l k = none
  | [], _ => rfl
  | (a, x) :: r, h => by
    rw [List.any_cons] at h
    obtain ⟨h1, h2⟩ := Bool.or_eq_false_iff.mp h
    have ih := getK_none h2
    unfold getK at ih ⊢
    rw [List.find?_cons]
    dsimp only at h1 ⊢
    rw [h1]
    exact ih
theorem getK_put (l : List (Key × D)) (k k' : Key) (d : D) : getK (putD l k d) k' = if k = k' then some d else getK l k' := by
  unfold putD
  cases h : l.any fun kv => decide (kv.1 = k) with
  | true =>
    rw [if_pos rfl, getK_map, h]
    rfl
  | false =>
    rw [if_neg (by decide)]
    have hn := getK_none h
    unfold getK at hn ⊢
    rw [List.find?_append]
    by_cases h2 : k = k'
    · subst h2
      cases q : l.find? fun kv => decide (kv.1 = k) with
      | none => simp
      | some p => rw [q] at hn; cases hn
    · cases q : l.find? fun kv => decide (kv.1 = k') with
      | none => simp [h2]
      | some p => simp [h2]
theorem at0 {α : Type} {x : α} {xs : List α} : atI (x :: xs) 0 = some x := by
  simp [atI, ixN]
theorem at1 {α : Type} {x y : α} {xs : List α} : atI (x :: y :: xs) 1 = some y := by
  unfold atI ixN
  rw [if_pos (by decide), if_pos (by simp only [List.length_cons]; omega)]
  rfl
theorem at2 {α : Type} {x y z : α} {xs : List α} : atI (x :: y :: z :: xs) 2 = some z := by
  unfold atI ixN
  rw [if_pos (by decide), if_pos (by simp only [List.length_cons]; omega)]
  rfl
end AB

set_option Elab.async false
set_option linter.all false
set_option maxRecDepth 100000
set_option maxHeartbeats 4000000
set_option autoImplicit false
namespace AB
open PySem L2 PySem.Spec PyProof.Rows He
variable {K : PySem.W.Frag} {B : Base} {W : WX} {ss : List Sl} {o : O} {Rt : Sl → O → Prop} {Xt : Addr → List (Str × D) → O → Prop}
/-! ### texts in lists -/
theorem any_txs {x : Str} : ∀ {ms : List Str}, ((D.pyL (txs ms)).any fun z => PyData.eqv z (D.py (.str x))) = decide (x ∈ ms)
  | [] => by simp [txs, D.pyL]
  | m :: r => by
    have ih := any_txs (x := x) (ms := r)
    show (PyData.eqv (.str m) (.str x) || ((D.pyL (txs r)).any fun z => PyData.eqv z (D.py (.str x)))) = _
    rw [ih, eqv_str]
    by_cases h : m = x
    · simp [h]
    · have h' : ¬ x = m := fun e => h e.symm
      simp [h, h']
theorem eqvAll_txs : ∀ {a b : List Str}, PyData.eqvAll (D.pyL (txs a)) (D.pyL (txs b)) = decide (a = b)
  | [], [] => by simp [txs, D.pyL, PyData.eqvAll]
  | [], y :: b => by simp [txs, D.pyL, PyData.eqvAll]
  | x :: a, [] => by simp [txs, D.pyL, PyData.eqvAll]
  | x :: a, y :: b => by
    have ih := eqvAll_txs (a := a) (b := b)
    show PyData.eqvAll (.str x :: D.pyL (txs a)) (.str y :: D.pyL (txs b)) = _
    unfold PyData.eqvAll
    rw [ih, eqv_str]
    by_cases h1 : x = y <;> by_cases h2 : a = b <;> simp [h1, h2]
theorem eqv_txs {a b : List Str} : PyData.eqv (D.py (.lst (txs a))) (D.py (.lst (txs b))) = decide (a = b) := by
  show PyData.eqv (.list (D.pyL (txs a))) (.list (D.pyL (txs b))) = _
  unfold PyData.eqv
  exact eqvAll_txs
theorem any_csD {c : List Str} : ∀ {cs : List (List Str)}, ((D.pyL (csD cs)).any fun z => PyData.eqv z (D.py (.lst (txs c)))) = decide (c ∈ cs)
  | [] => by simp [csD, D.pyL]
  | m :: r => by
    have ih := any_csD (c := c) (cs := r)
    show (PyData.eqv (D.py (.lst (txs m))) (D.py (.lst (txs c))) || ((D.pyL (csD r)).any fun z => PyData.eqv z (D.py (.lst (txs c))))) = _
    rw [ih, eqv_txs]
    by_cases h : m = c
    · simp [h]
    · have h' : ¬ c = m := fun e => h e.symm
      simp [h, h']
theorem pl_txs {l : List Str} : (D.py (.lst (txs l))).plain = true := by
  rw [D.py, PyData.plain]
  exact py_txs l
theorem py_csD : ∀ l : List (List Str), PyData.plainAll (D.pyL (csD l)) = true
  | [] => rfl
  | s :: r => by
    show PyData.plainAll (D.py (.lst (txs s)) :: D.pyL (csD r)) = true
    rw [PyData.plainAll, pl_txs, py_csD r]
    rfl
theorem dep_txs : ∀ l : List Str, PyData.depthAll (D.pyL (txs l)) = 0
  | [] => by simp [txs, D.pyL, PyData.depthAll]
  | s :: r => by
    show PyData.depthAll (.str s :: D.pyL (txs r)) = 0
    rw [PyData.depthAll, dep_txs r]
    simp [PyData.depth]
theorem dep_lst (l : List Str) : (D.py (.lst (txs l))).depth = 1 := by
  rw [D.py, PyData.depth, dep_txs]
theorem cutD_take {α : Type} (xs : List α) (n : Nat) (h : n ≤ xs.length) : cutD xs none (some (n : Int)) = xs.take n := by
  unfold cutD
  rw [HT.sIx_none, HT.sIx_nat, Nat.min_eq_left h]
  simp
theorem signOk {c : Nat} (h : inR c = true) : c < 0x110000 := by
  unfold inR at h
  simp at h
  omega
theorem strOk_isW {s : Str} (h : isW s = true) : PyData.strOk s = true := by
  unfold isW at h
  simp only [Bool.and_eq_true] at h
  obtain ⟨_, _, _, h⟩ := h
  unfold PyData.strOk
  rw [Array.all_eq_true_iff_forall_mem]
  rw [List.all_eq_true] at h
  intro x hx
  have := signOk (h x (by simpa using hx))
  simpa using this
theorem lay_txs : ∀ l : List Str, (∀ m, m ∈ l → isW m = true) → PyData.canLayAll0 (D.pyL (txs l)) = true
  | [], _ => rfl
  | s :: r, h => by
    show PyData.canLayAll0 (.str s :: D.pyL (txs r)) = true
    rw [PyData.canLayAll0, lay_txs r (fun m hm => h m (List.mem_cons_of_mem _ hm)), PyData.canLay0, strOk_isW (h s (List.mem_cons_self ..))]
    rfl
theorem txs_get {l : List Str} {i : Nat} : (D.pyL (txs l))[i]? = (l[i]?).map PyData.str := by
  induction l generalizing i with
  | nil => rfl
  | cons a r ih =>
    cases i with
    | zero => rfl
    | succ i => exact ih (i := i)
theorem m_indexS {x : Str} {ms : List Str} {P : Sl → O → Prop} (h : x ∈ ms) (hw : ∀ m, m ∈ ms → isW m = true) (p : P (.da (.int (ms.idxOf x : Nat))) o) : AM B (rIndexD K) (.da (.lst (txs ms))) [.da (.str x)] o P := by
  have hl : ms.idxOf x < ms.length := List.idxOf_lt_length_of_mem h
  refine m_index (j := ms.idxOf x) (z := .str x) ?_ ?_ (py_txs ms) rfl ?_ ?_ ?_ p
  · unfold SeqAt.shaped
    rw [Bool.and_eq_true]
    refine ⟨by rw [PyData.canLay0]; exact lay_txs ms hw, decide_eq_true ?_⟩
    have := dep_lst ms
    rw [D.py] at this
    omega
  · unfold SeqAt.shaped
    rw [Bool.and_eq_true]
    refine ⟨?_, decide_eq_true ?_⟩
    · show PyData.canLay0 (.str x) = true
      rw [PyData.canLay0]
      exact strOk_isW (hw x h)
    · show PyData.depth (.str x) ≤ 64
      simp [PyData.depth]
  · rw [txs_get, List.getElem?_eq_getElem hl, List.getElem_idxOf hl]
    rfl
  · show PyData.eqv (.str x) (.str x) = true
    rw [eqv_str]
    simp
  · intro m z' hm hz
    rw [txs_get, List.getElem?_eq_getElem (by omega)] at hz
    cases hz
    show PyData.eqv (.str ms[m]) (.str x) = false
    rw [eqv_str, decide_eq_false]
    intro e
    have := List.not_of_lt_findIdx (p := (· == x)) hm
    simp [e] at this
/-! ### loops and comprehensions that only look -/
theorem e_ext {ρ : R} {t : TA} {r jo : Nat} {acc : List D} {P : Sl → O → Prop} (hr : ρ[r]? = some (some (.ow jo))) (ho : o[jo]? = some (.lst (acc.map Sl.da))) (hl : acc.length ≤ 500000)
    (h : AA B t ρ o fun xs o2 => ∃ ds, xs = [.da (.lst ds)] ∧ ds.length ≤ 400000 ∧ o2 = o ∧ P (.da .non) (o.set jo (.lst ((acc ++ ds).map Sl.da)))) : AE B (tBM K "list" rExtend (tVar r) t) ρ o P := by
  refine e_bm ?_
  refine e_var hr ?_
  refine ⟨⟨_, ho⟩, ?_⟩
  intro F H θ σ k Q q
  refine h F H θ σ k Q fun vs xs F' H' θ' o' t' k' r' p => ?_
  obtain ⟨ds, rfl, hd, rfl, p⟩ := p
  refine q vs _ F' H' θ' _ t' k' r' (m_extend (ts := ds.map Sl.da) ho rfl (by rw [List.length_map, List.length_map]; exact sizeBig (by omega)) ?_)
  rw [List.map_append] at p
  exact p
theorem lc_map {tl : TE} {g : TG} {te : TE} {vs : List Nat} {ρ : R} {P : Sl → O → Prop} {α : Type} (f h : α → D) (xs : List α) (hl : xs.length ≤ 1000000)
    (hx : AE B tl ρ o fun x o1 => x = .da (.lst (xs.map f)) ∧ o1 = o) (turn : ∀ a, a ∈ xs → AGW B g vs (.da (f a)) (wipeR ρ vs) o fun ρ2 o2 => o2 = o ∧ AE B te ρ2 o fun y o3 => o3 = o ∧ y = .da (h a)) (p : P (.da (.lst (xs.map h))) o) : AE B (tLc (iSq K tl) g tYes te vs) ρ o P := by
  refine e_lc fun F H θ σ k Q q => hx F H θ σ k Q fun v s F' H' θ' o' t k' r e => q v s F' H' θ' o' t k' r ?_
  obtain ⟨rfl, rfl⟩ := e
  refine ⟨xs.map f, rfl, fun i acc o2 => o2 = o' ∧ i ≤ xs.length ∧ acc = (xs.take i).map h, ⟨rfl, Nat.zero_le _, rfl⟩, ?_, ?_, ?_⟩
  · rintro i acc o2 ⟨rfl, hi, rfl⟩
    rw [List.length_map, List.length_take]
    omega
  · rintro i d acc o2 hd ⟨rfl, hi, rfl⟩
    rw [List.getElem?_map] at hd
    obtain ⟨a, ha, rfl⟩ := Option.map_eq_some_iff.mp hd
    have hi2 := (List.getElem?_eq_some_iff.mp ha).1
    intro F H θ σ v k rr Q q
    refine turn a (List.mem_of_getElem? ha) F H θ σ v k rr Q fun F9 H9 θ9 σ9 ρ9 o9 t9 k9 e9 p9 => ?_
    obtain ⟨e0, p9⟩ := p9
    subst e0
    refine q F9 H9 θ9 σ9 ρ9 _ t9 k9 e9 (t_yes (ite_tt ?_))
    intro F H θ σ k Q q
    refine p9 F H θ σ k Q fun v s F' H' θ' o' t k' r z => q v s F' H' θ' o' t k' r ?_
    obtain ⟨rfl, rfl⟩ := z
    refine ⟨_, rfl, rfl, by omega, ?_⟩
    rw [List.take_add_one, ha, List.map_append]
    rfl
  · rintro acc o2 ⟨rfl, hi, rfl⟩
    rw [List.length_map, List.take_length]
    exact p
/-! ### dicts of data -/
theorem getK_dsl {k : Key} : ∀ {l : List (Key × D)}, getK (dsl l) k = (getK l k).map Sl.da
  | [] => rfl
  | (a, x) :: r => by
    have ih := getK_dsl (k := k) (l := r)
    unfold getK dsl at ih ⊢
    rw [List.map_cons, List.find?_cons, List.find?_cons]
    by_cases h : a = k
    · simp [h]
    · simp only [h, decide_false]
      exact ih
theorem getK_dsl_some {k : Key} {l : List (Key × D)} : (getK (dsl l) k).isSome = (getK l k).isSome := by
  rw [getK_dsl]
  cases getK l k <;> rfl
theorem dsl_len {l : List (Key × D)} : (dsl l).length = l.length := by simp [dsl]
/-- the dict name -> row number or row datum, built in order -/
def mkK {α : Type} (nm : α → Str) (f : Nat → α → D) : List α → List (Key × D) → List (Key × D)
  | [], l => l
  | a :: r, l => mkK nm f r (putD l (.inr (nm a)) (f l.length a))
theorem mkK_len {α : Type} {nm : α → Str} {f : Nat → α → D} : ∀ (xs : List α) (l : List (Key × D)), (mkK nm f xs l).length ≤ l.length + xs.length
  | [], l => Nat.le_refl _
  | a :: r, l => by
    have h := mkK_len (nm := nm) (f := f) r (putD l (.inr (nm a)) (f l.length a))
    have := putD_len l (.inr (nm a)) (f l.length a)
    rw [List.length_cons]
    show (mkK nm f r _).length ≤ _
    omega
theorem mkK_app {α : Type} {nm : α → Str} {f : Nat → α → D} : ∀ (xs ys : List α) (l : List (Key × D)), mkK nm f (xs ++ ys) l = mkK nm f ys (mkK nm f xs l)
  | [], _, _ => rfl
  | _ :: r, ys, _ => mkK_app r ys _
theorem putD_new {l : List (Key × D)} {k : Key} {d : D} (h : getK l k = none) : putD l k d = l ++ [(k, d)] := by
  unfold putD
  have : (l.any fun kv => decide (kv.1 = k)) = false := by
    cases q : l.any fun kv => decide (kv.1 = k) with
    | false => rfl
    | true =>
      obtain ⟨p, hp, hp2⟩ := List.any_eq_true.mp q
      unfold getK at h
      rw [Option.map_eq_none_iff, List.find?_eq_none] at h
      exact absurd hp2 (h p hp)
  rw [this]
  rfl
theorem mkK_get {α : Type} {nm : α → Str} {f : Nat → α → D} (xs : List α) (hn : (xs.map nm).Nodup) : ∀ n, n ≤ xs.length → (mkK nm f (xs.take n) []).length = n ∧ (∀ (i : Nat) a, i < n → xs[i]? = some a → getK (mkK nm f (xs.take n) []) (.inr (nm a)) = some (f i a)) ∧ ∀ s, s ∉ (xs.take n).map nm → getK (mkK nm f (xs.take n) []) (.inr s) = none
  | 0, _ => by
    rw [List.take_zero]
    exact ⟨rfl, fun i a h => absurd h (Nat.not_lt_zero _), fun s _ => rfl⟩
  | n + 1, h => by
    obtain ⟨h1, h2, h3⟩ := mkK_get (f := f) xs hn n (by omega)
    have hx : xs[n]? = some xs[n] := List.getElem?_eq_getElem (by omega)
    have nx : nm xs[n] ∉ (xs.take n).map nm := fun z => by
      obtain ⟨b, hb, e⟩ := List.mem_map.mp z
      obtain ⟨i, hi, e2⟩ := List.getElem_of_mem hb
      rw [List.length_take] at hi
      rw [List.getElem_take] at e2
      have hp := List.pairwise_iff_getElem.mp hn i n (by rw [List.length_map]; omega) (by rw [List.length_map]; omega) (by omega)
      rw [List.getElem_map, List.getElem_map, e2] at hp
      exact hp e
    have e : mkK nm f (xs.take (n + 1)) [] = putD (mkK nm f (xs.take n) []) (.inr (nm xs[n])) (f n xs[n]) := by
      rw [List.take_add_one, hx, mkK_app]
      show putD _ _ (f (mkK nm f (xs.take n) []).length xs[n]) = _
      rw [h1]
    refine ⟨?_, fun i a hi ha => ?_, fun s hs => ?_⟩
    · rw [e, putD_new (h3 _ nx), List.length_append, h1]
      rfl
    · rw [e, getK_put]
      by_cases q : i = n
      · subst q
        rw [hx] at ha
        cases ha
        rw [if_pos rfl]
      · have hia : nm a ∈ (xs.take n).map nm := List.mem_map.mpr ⟨a, List.mem_iff_getElem?.mpr ⟨i, by rw [List.getElem?_take, if_pos (by omega)]; exact ha⟩, rfl⟩
        rw [if_neg (fun z => nx (by rw [Sum.inr.inj z]; exact hia))]
        exact h2 i a (by omega) ha
    · rw [List.take_add_one, hx, List.map_append] at hs
      rw [e, getK_put, if_neg (fun z => hs (by rw [← Sum.inr.inj z]; simp))]
      exact h3 s fun z => hs (List.mem_append_left _ z)
theorem places_eq (ds : List DR) : places ds = mkK DR.n (fun i _ => .int i) ds [] := by
  have : ∀ (ds : List DR) l, ds.foldl (fun l r => putD l (.inr r.n) (.int l.length)) l = mkK DR.n (fun i _ => .int i) ds l := by
    intro ds
    induction ds with
    | nil => intro l; rfl
    | cons a r ih => intro l; exact ih _
  exact this ds []
theorem Fp.one {o : O} {u v : OO} : Fp o ((o ++ [u]).set o.length v) := by rw [set_new]; exact ⟨[v], rfl⟩
end AB

set_option Elab.async false
set_option linter.all false
set_option maxRecDepth 100000
set_option maxHeartbeats 4000000
set_option autoImplicit false
namespace AB
open PySem L2 PySem.Spec PyProof.Rows He
variable {K : PySem.W.Frag} {B : Base} {W : WX} {ss : List Sl} {o : O} {Rt : Sl → O → Prop} {Xt : Addr → List (Str × D) → O → Prop}
/-! ### fields of a plan -/
theorem fl_hc {w : Wo} : w.fields.lookup ("helper_count" : Str) = some (.int w.hc) := rfl
theorem fl_last {w : Wo} : w.fields.lookup ("last_moment" : Str) = some (.int w.last) := rfl
theorem fl_ms {w : Wo} : w.fields.lookup ("mishap_words" : Str) = some (.lst (txs w.ms)) := rfl
theorem fl_cs {w : Wo} : w.fields.lookup ("course_rows" : Str) = some (.lst (csD w.cs)) := rfl
theorem fl_ds {w : Wo} : w.fields.lookup ("decision_rows" : Str) = some (.lst (w.ds.map DR.d)) := rfl
theorem fl_rs {w : Wo} : w.fields.lookup ("rule_rows" : Str) = some (.lst (w.rs.map RR.d)) := rfl
theorem fl_ss {w : Wo} : w.fields.lookup ("sight_rows" : Str) = some (.lst (w.ss.map SR.d)) := rfl
theorem fl_ls {w : Wo} : w.fields.lookup ("letter_rows" : Str) = some (.lst (w.ls.map LR.d)) := rfl
theorem fl_dp {w : Wo} : w.fields.lookup ("decision_places" : Str) = some (.dic (places w.ds)) := rfl
theorem look_da {f : Str} {d : D} : ∀ {l : List (Str × D)}, l.lookup f = some d → (daF l).lookup f = some (.da d)
  | [], e => by cases e
  | (g, x) :: r, e => by
    unfold daF
    rw [List.map_cons]
    by_cases q : f = g
    · subst q
      simp only [List.lookup, beq_self_eq_true] at e ⊢
      cases e
      rfl
    · have qb : (f == g) = false := by simpa using q
      simp only [List.lookup, qb] at e ⊢
      exact look_da e
theorem look_da0 {f : Str} : ∀ {l : List (Str × D)}, l.lookup f = none → (daF l).lookup f = none
  | [], e => rfl
  | (g, x) :: r, e => by
    unfold daF
    rw [List.map_cons]
    by_cases q : f = g
    · subst q
      simp only [List.lookup, beq_self_eq_true] at e
      cases e
    · have qb : (f == g) = false := by simpa using q
      simp only [List.lookup, qb] at e ⊢
      exact look_da0 e
theorem e_pf {te : TE} {ρ : R} {P : Sl → O → Prop} {f : Str} {d : D} {w : Wo} (hc : L2.Cls K (ga K "Plan")) (hn : NoAttr K (ga K "Plan") f) (hl : w.fields.lookup f = some d) (h : AE B te ρ o fun x o1 => x = .da (planD K w) ∧ P (.da d) o1) : AE B (tFld K te f) ρ o P :=
  e_fld fun F H θ σ k Q q => h F H θ σ k Q fun v s F' H' θ' o' t k' r e => by
    obtain ⟨rfl, p⟩ := e
    exact q v _ F' H' θ' o' t k' r ⟨_, _, _, ⟨rfl, rfl⟩, hc, hn, look_da hl, p⟩
/-- .. of an own one -/
theorem e_pfO {te : TE} {ρ : R} {P : Sl → O → Prop} {f : Str} {d : D} {j : Nat} {l : List (Str × D)} (hc : L2.Cls K (ga K "Plan")) (hn : NoAttr K (ga K "Plan") f) (hl : l.lookup f = some d) (h : AE B te ρ o fun x o1 => x = .ow j ∧ o1[j]? = some (.ins (ga K "Plan") (daF l)) ∧ P (.da d) o1) : AE B (tFld K te f) ρ o P :=
  e_fld fun F H θ σ k Q q => h F H θ σ k Q fun v s F' H' θ' o' t k' r e => by
    obtain ⟨rfl, ho, p⟩ := e
    exact q v _ F' H' θ' o' t k' r ⟨_, _, _, ho, hc, hn, look_da hl, p⟩
/-- a method of a plan -/
theorem fl_no {w : Wo} {m : Str} (h : w.fields.lookup m = none) : (w.fields.map fun p => (p.1, Sl.da p.2)).lookup m = none := look_da0 h
theorem e_pm {to : TE} {ta : TA} {ρ : R} {P : Sl → O → Prop} {m : Str} {C : Con} {w : Wo} (hm : w.fields.lookup m = none) (h : AE B to ρ o fun x o1 => x = .da (planD K w) ∧ AA B ta ρ o1 fun ss o2 => C (.da (planD K w) :: ss) o2 P (fun C' fs o' => AX B W ρ o' C' fs)) : AE B (tMeI (ga K "Plan") m (SpC C) W to ta) ρ o P :=
  e_meI fun F H θ σ k Q q => h F H θ σ k Q fun v s F' H' θ' o' t k' r e => by
    obtain ⟨rfl, p⟩ := e
    exact q v _ F' H' θ' o' t k' r ⟨_, ⟨rfl, rfl⟩, fl_no hm, p⟩
theorem e_eqz {te : TE} {ρ : R} {x : Sl} {o1 : O} {Q : Sl → O → Prop} (p : Q x o1) : x = x ∧ Q x o1 := ⟨rfl, p⟩
theorem g_u2 {ρ : R} {gs : TGs} {a0 a1 : D} {P : R → O → Prop} (h : AGs B gs [.da a0, .da a1] ρ o P) : AG B (gUn K 2 gs) (.da (.tup [a0, a1])) ρ o P := g_unT rfl h
theorem gw_u2 {ρ : R} {gs : TGs} {vs : List Nat} {a0 a1 : D} {P : R → O → Prop} (h : AGWs B gs vs [.da a0, .da a1] ρ o P) : AGW B (gUn K 2 gs) vs (.da (.tup [a0, a1])) ρ o P := gw_unT rfl h
theorem g_u3 {ρ : R} {gs : TGs} {a0 a1 a2 : D} {P : R → O → Prop} (h : AGs B gs [.da a0, .da a1, .da a2] ρ o P) : AG B (gUn K 3 gs) (.da (.tup [a0, a1, a2])) ρ o P := g_unT rfl h
theorem gw_u3 {ρ : R} {gs : TGs} {vs : List Nat} {a0 a1 a2 : D} {P : R → O → Prop} (h : AGWs B gs vs [.da a0, .da a1, .da a2] ρ o P) : AGW B (gUn K 3 gs) vs (.da (.tup [a0, a1, a2])) ρ o P := gw_unT rfl h
theorem g_u4 {ρ : R} {gs : TGs} {a0 a1 a2 a3 : D} {P : R → O → Prop} (h : AGs B gs [.da a0, .da a1, .da a2, .da a3] ρ o P) : AG B (gUn K 4 gs) (.da (.tup [a0, a1, a2, a3])) ρ o P := g_unT rfl h
theorem gw_u4 {ρ : R} {gs : TGs} {vs : List Nat} {a0 a1 a2 a3 : D} {P : R → O → Prop} (h : AGWs B gs vs [.da a0, .da a1, .da a2, .da a3] ρ o P) : AGW B (gUn K 4 gs) vs (.da (.tup [a0, a1, a2, a3])) ρ o P := gw_unT rfl h
theorem g_u5 {ρ : R} {gs : TGs} {a0 a1 a2 a3 a4 : D} {P : R → O → Prop} (h : AGs B gs [.da a0, .da a1, .da a2, .da a3, .da a4] ρ o P) : AG B (gUn K 5 gs) (.da (.tup [a0, a1, a2, a3, a4])) ρ o P := g_unT rfl h
theorem gw_u5 {ρ : R} {gs : TGs} {vs : List Nat} {a0 a1 a2 a3 a4 : D} {P : R → O → Prop} (h : AGWs B gs vs [.da a0, .da a1, .da a2, .da a3, .da a4] ρ o P) : AGW B (gUn K 5 gs) vs (.da (.tup [a0, a1, a2, a3, a4])) ρ o P := gw_unT rfl h
theorem g_u6 {ρ : R} {gs : TGs} {a0 a1 a2 a3 a4 a5 : D} {P : R → O → Prop} (h : AGs B gs [.da a0, .da a1, .da a2, .da a3, .da a4, .da a5] ρ o P) : AG B (gUn K 6 gs) (.da (.tup [a0, a1, a2, a3, a4, a5])) ρ o P := g_unT rfl h
theorem gw_u6 {ρ : R} {gs : TGs} {vs : List Nat} {a0 a1 a2 a3 a4 a5 : D} {P : R → O → Prop} (h : AGWs B gs vs [.da a0, .da a1, .da a2, .da a3, .da a4, .da a5] ρ o P) : AGW B (gUn K 6 gs) vs (.da (.tup [a0, a1, a2, a3, a4, a5])) ρ o P := gw_unT rfl h
/-- the truth of a test is known -/
theorem dt {p : Prop} {_ : Decidable p} (h : p) : decide p = true := decide_eq_true h
theorem df {p : Prop} {_ : Decidable p} (h : ¬p) : decide p = false := decide_eq_false h
theorem o_leT {i j : Int} {P : Sl → O → Prop} (h : i ≤ j) (p : P (.da (.bl true)) o) : A2 B rLeA (.da (.int i)) (.da (.int j)) o P := o_le (by rw [dt h]; exact p)
theorem o_ltT {i j : Int} {P : Sl → O → Prop} (h : i < j) (p : P (.da (.bl true)) o) : A2 B rLtA (.da (.int i)) (.da (.int j)) o P := o_lt (by rw [dt h]; exact p)
theorem range_of {many : Int} {n : Nat} (h : many.toNat = n) : True := True.intro
theorem map_get {α β : Type} {f : α → β} {l : List α} {i : Nat} {d : β} (h : (l.map f)[i]? = some d) : ∃ a, l[i]? = some a ∧ a ∈ l ∧ d = f a ∧ i < l.length := by
  rw [List.getElem?_map] at h
  obtain ⟨a, ha, rfl⟩ := Option.map_eq_some_iff.mp h
  exact ⟨a, ha, List.mem_of_getElem? ha, rfl, (List.getElem?_eq_some_iff.mp ha).1⟩
theorem atI_nat {α : Type} {l : List α} {i : Nat} {a : α} (h : l[i]? = some a) : atI l (i : Int) = some a := atI_of (j := i) (by
  unfold ixN
  have := (List.getElem?_eq_some_iff.mp h).1
  rw [if_pos (by omega), if_pos (by omega)]
  rfl) h
theorem atI_map {α β : Type} {f : α → β} {l : List α} {i : Int} {a : α} (h : atI l i = some a) : atI (l.map f) i = some (f a) := by
  obtain ⟨j, e1, e2⟩ := atI_eq h
  exact atI_of (j := j) (by rw [List.length_map]; exact e1) (by rw [List.getElem?_map, e2]; rfl)
end AB

set_option Elab.async false
set_option linter.all false
set_option maxRecDepth 100000
set_option maxHeartbeats 4000000
set_option autoImplicit false
namespace AB
open PySem L2 PySem.Spec PyProof.Rows He
variable {K : PySem.W.Frag} {B : Base} {W : WX} {ss : List Sl} {o : O} {Rt : Sl → O → Prop} {Xt : Addr → List (Str × D) → O → Prop} {ρ : R} {P : Sl → O → Prop} {D0 : AD}
theorem e_ixc {i : Nat} {k : Int} {ds : List D} {d : D} (h : ρ[i]? = some (some (.da (.lst ds)))) (e : atI ds k = some d) (p : P (.da d) o) : AE B (tOp (rIxA K) (tVar i) (tC (.int k))) ρ o P := e_op (e_var h (e_int (o_ix e p)))
theorem e_ixcT {i : Nat} {k : Int} {ds : List D} {d : D} (h : ρ[i]? = some (some (.da (.tup ds)))) (e : atI ds k = some d) (p : P (.da d) o) : AE B (tOp (rIxA K) (tVar i) (tC (.int k))) ρ o P := e_op (e_var h (e_int (o_ixT e p)))
/-- len of an own dict -/
theorem n_lenDO {j : Nat} {l : List (Key × Sl)} (h : o[j]? = some (.dic l)) (p : P (.da (.int l.length)) o) : AN B (rLenA K) [.ow j] o P :=
  AN.of (z := .da (.int l.length)) (fun F H θ σ ρ vs k r Q q => by
    cases r with
    | cons r rs =>
      cases rs
      obtain ⟨a, rfl, ha⟩ := r
      obtain ⟨b, hb, ks, h1, h2⟩ := k.own h
      rw [ha] at hb
      cases hb
      exact .inr ⟨a, ks, rfl, h1, q _ (by rw [Paired.len h2]; exact Rep.int _)⟩) p
theorem Fi.refl {j : Nat} (o : O) : Fi j o o := ⟨Nat.le_refl _, fun _ _ _ => rfl⟩
theorem Fi.fp {j : Nat} {o o1 o2 : O} (h : Fi j o o1) (f : Fp o1 o2) : Fi j o o2 := by
  obtain ⟨g, rfl⟩ := f
  exact ⟨by rw [List.length_append]; have := h.len; omega, fun i hi n => by rw [List.getElem?_append_left (Nat.lt_of_lt_of_le hi h.len)]; exact h.get i hi n⟩
theorem Fi.set {j i : Nat} {o o1 : O} {u : OO} (h : Fi j o o1) (hi : i = j ∨ o.length ≤ i) : Fi j o (o1.set i u) :=
  ⟨by rw [List.length_set]; exact h.len, fun k hk n => by
    rw [List.getElem?_set_ne (by rcases hi with q | q <;> omega)]
    exact h.get k hk n⟩
theorem putG_len {f : Str} {s : Sl} : ∀ {l : List (Str × Sl)} {n : Nat}, l.length ≤ n → (putG f s l).length ≤ n + 1
  | [], n, h => by simp [putG]
  | (g, x) :: r, n, h => by
    unfold putG
    split
    · rw [List.length_cons] at h ⊢; omega
    · rw [List.length_cons] at h ⊢
      have := putG_len (f := f) (s := s) (l := r) (n := n - 1) (by omega)
      omega
/-- a field is set, at an own instance -/
theorem s_fldO {f : Str} {te : TE} {i j : Nat} {C : Addr} {l : List (Str × Sl)} (hi : ρ[i]? = some (some (.ow j))) (hc : L2.Cls K C) (hn : NoAttr K C f) {n : Nat} (hj : j < o.length) (hl : l.length ≤ n) (hn' : n < 1000)
    (h : AE B te ρ (o.set j (.ins C l)) fun s o1 => o1 = o.set j (.ins C l) ∧ D0.nx ρ (o.set j (.ins C (putG f s l)))) : WS B (sFld K (tVar i) te f) D0 ρ (o.set j (.ins C l)) :=
  s_fld fun F H θ σ k Q q => h F H θ σ k Q fun v s F' H' θ' o' t k' r e => q v s F' H' θ' o' t k' r (by
    obtain ⟨rfl, p⟩ := e
    refine e_var hi ⟨j, C, l, rfl, List.getElem?_set_self hj, hc, hn, Nat.lt_of_le_of_lt hl hn', ?_⟩
    rw [List.set_set]
    exact p)
theorem set_self {j : Nat} {u : OO} (h : o[j]? = some u) : o.set j u = o := by
  obtain ⟨h1, h2⟩ := List.getElem?_eq_some_iff.mp h
  rw [← h2]
  exact List.set_getElem_self h1
end AB

set_option Elab.async false
set_option linter.all false
set_option maxRecDepth 100000
set_option maxHeartbeats 4000000
set_option autoImplicit false
namespace AB
open PySem L2 PySem.Spec PyProof.Rows He
variable {K : PySem.W.Frag} {B : Base} {W : WX} {ss : List Sl} {o : O} {Rt : Sl → O → Prop} {Xt : Addr → List (Str × D) → O → Prop} {ρ : R} {P : Sl → O → Prop} {D0 : AD}
theorem lc_mapO {tl : TE} {g : TG} {te : TE} {vs : List Nat} {α : Type} (f h : α → D) (xs : List α) (hl : xs.length ≤ 1000000)
    (hx : AE B tl ρ o fun x o1 => x = .da (.lst (xs.map f)) ∧ (∀ a, a ∈ xs → AGW B g vs (.da (f a)) (wipeR ρ vs) o1 fun ρ2 o2 => o2 = o1 ∧ AE B te ρ2 o1 fun y o3 => o3 = o1 ∧ y = .da (h a)) ∧ P (.da (.lst (xs.map h))) o1) : AE B (tLc (iSq K tl) g tYes te vs) ρ o P := by
  refine e_lc fun F H θ σ k Q q => hx F H θ σ k Q fun v s F' H' θ' o' t k' r e => q v s F' H' θ' o' t k' r ?_
  obtain ⟨rfl, turn, p⟩ := e
  refine ⟨xs.map f, rfl, fun i acc o2 => o2 = o' ∧ i ≤ xs.length ∧ acc = (xs.take i).map h, ⟨rfl, Nat.zero_le _, rfl⟩, ?_, ?_, ?_⟩
  · rintro i acc o2 ⟨rfl, hi, rfl⟩
    rw [List.length_map, List.length_take]
    omega
  · rintro i d acc o2 hd ⟨rfl, hi, rfl⟩
    rw [List.getElem?_map] at hd
    obtain ⟨a, ha, rfl⟩ := Option.map_eq_some_iff.mp hd
    have hi2 := (List.getElem?_eq_some_iff.mp ha).1
    intro F H θ σ v k rr Q q
    refine turn a (List.mem_of_getElem? ha) F H θ σ v k rr Q fun F9 H9 θ9 σ9 ρ9 o9 t9 k9 e9 p9 => ?_
    obtain ⟨e0, p9⟩ := p9
    subst e0
    refine q F9 H9 θ9 σ9 ρ9 _ t9 k9 e9 (t_yes (ite_tt ?_))
    intro F H θ σ k Q q
    refine p9 F H θ σ k Q fun v s F' H' θ' o' t k' r z => q v s F' H' θ' o' t k' r ?_
    obtain ⟨rfl, rfl⟩ := z
    refine ⟨_, rfl, rfl, by omega, ?_⟩
    rw [List.take_add_one, ha, List.map_append]
    rfl
  · rintro acc o2 ⟨rfl, hi, rfl⟩
    rw [List.length_map, List.take_length]
    exact p
theorem exd8 {a b c d e f x y : D} {Q : List D → Prop} (h : Q [a, b, c, d, e, f, x, y]) : ∃ ds : List D, [Sl.da a, Sl.da b, Sl.da c, Sl.da d, Sl.da e, Sl.da f, Sl.da x, Sl.da y] = ds.map Sl.da ∧ ds.length ≤ sizeLine ∧ Q ds := ⟨[a, b, c, d, e, f, x, y], rfl, by rw [sizeLine_eq]; exact Nat.le_of_ble_eq_true rfl, h⟩
/-! ### words that are new -/
theorem nd_len {l1 l2 : List Str} : l1.Nodup → (∀ x, x ∈ l1 → x ∈ l2) → l1.length ≤ l2.length := by
  induction l1 generalizing l2 with
  | nil => intro _ _; exact Nat.zero_le _
  | cons a r ih =>
    intro hn hs
    have ha := hs a (List.mem_cons_self ..)
    have hn' := List.nodup_cons.mp hn
    have := ih (l2 := l2.erase a) hn'.2 fun x hx => (List.mem_erase_of_ne (fun e => hn'.1 (by rw [← e]; exact hx))).mpr (hs x (List.mem_cons_of_mem _ hx))
    rw [List.length_erase_of_mem ha] at this
    have hp := List.length_pos_of_mem ha
    rw [List.length_cons]
    omega
def numS (n : Nat) : Str := ((toString (n : Int) : String) : Str)
def cand (s : Str) (n : Nat) : Str := cutS s none (some 8) ++ numS n
theorem str_ext {a b : Str} (h : a.cps.toList = b.cps.toList) : a = b := by
  cases a with | mk a => cases b with | mk b =>
  have : a = b := Array.toList_inj.mp h
  rw [this]
theorem numI : ∀ a : Nat, a < 60 → ∀ b : Nat, b < 60 → (numS a).cps.toList = (numS b).cps.toList → a = b := by decide +kernel
theorem cand_inj {s : Str} {a b : Nat} (ha : a < 60) (hb : b < 60) (h : cand s a = cand s b) : a = b := by
  unfold cand at h
  have := congrArg (fun x : Str => x.cps.toList) h
  simp only [app_toList] at this
  exact numI a ha b hb (List.append_cancel_left this)
theorem cands_nd (s : Str) : ((List.range 59).map (cand s)).Nodup := by
  rw [List.nodup_iff_pairwise_ne, List.pairwise_map]
  refine List.Pairwise.imp_of_mem (fun {a b} ha hb hne e => ?_) (List.nodup_iff_pairwise_ne.mp (List.nodup_range (n := 59)))
  rw [List.mem_range] at ha hb
  exact hne (cand_inj (by omega) (by omega) e)
theorem numD : ∀ n : Nat, n < 60 → ((numS n).cps.toList.any fun c => decide (48 ≤ c ∧ c ≤ 57)) = true := by decide +kernel
theorem kwD {s : Str} (h : (s.cps.toList.any fun c => decide (48 ≤ c ∧ c ≤ 57)) = true) : (decide (s = ("if" : Str)) || decide (s = ("unless" : Str))) = false := by
  have h1 : s ≠ ("if" : Str) := fun e => by
    rw [e] at h
    exact absurd h (by decide +kernel)
  have h2 : s ≠ ("unless" : Str) := fun e => by
    rw [e] at h
    exact absurd h (by decide +kernel)
  rw [decide_eq_false h1, decide_eq_false h2]
  rfl
theorem cand_kw {s : Str} {n : Nat} (h : n < 60) : (decide (cand s n = ("if" : Str)) || decide (cand s n = ("unless" : Str))) = false := kwD (by
  unfold cand
  rw [app_toList, List.any_append, numD n h, Bool.or_true])
/-! ### what stands for a datum -/
def tyD : D → String
  | .non => "NoneType"
  | .bl _ => "bool"
  | .int _ => "int"
  | .str _ => "str"
  | .tup _ => "tuple"
  | _ => "list"
def isNd : D → Bool
  | .non => true
  | _ => false
theorem MV.isN {x : Sl} {d : D} {n : Nat} (h : MV o x d) (hm : Mt n d) : AB.isN x = isNd d ∧ ∀ w, x ≠ .da (.raw w) := by
  cases n with
  | zero => exact hm.elim
  | succ n =>
    rcases h with rfl | ⟨ds, rfl, hL⟩
    · cases d <;> first | exact False.elim hm | exact ⟨rfl, fun w z => by cases z⟩
    · cases x with
      | ow j => exact ⟨rfl, fun w z => by cases z⟩
      | da d => cases d <;> first | exact False.elim hL | exact ⟨rfl, fun w z => by cases z⟩
theorem o_isMV {x : Sl} {d : D} {n : Nat} {b : Bool} (h : MV o x d) (hm : Mt n d) (hb : isNd d = b) (p : P (.da (.bl b)) o) : A2 B rIsA x (.da .non) o P := o_is (h.isN hm).2 (by rw [(h.isN hm).1, hb]; exact p)
theorem n_isiMV {x : Sl} {d : D} {n : Nat} {T : String} {b : Bool} (h : MV o x d) (hm : Mt n d) (hk : kitB (tyD d) T = some b) (p : P (.da (.bl b)) o) : AN B (rIsi K) [x, .da (.raw (.ty T))] o P := by
  cases n with
  | zero => exact hm.elim
  | succ n =>
    rcases h with rfl | ⟨ds, rfl, hL⟩
    · refine n_isi (fun F H θ σ ρ v u k r1 r2 => ?_) p
      cases r2
      cases d with
      | non => cases r1; exact ⟨_, _, .ty _, .base .non, kit_ty hk⟩
      | bl b => cases r1; exact ⟨_, _, .ty _, .base (.bl _), kit_ty hk⟩
      | int i => cases r1; exact ⟨_, _, .ty _, .base (.int _), kit_ty hk⟩
      | str s => cases r1; exact ⟨_, _, .ty _, .base (.str _), kit_ty hk⟩
      | tup l => cases r1 with | tup e _ => exact ⟨_, _, .ty _, .base (.tup (k.fh _ _ e)), kit_ty hk⟩
      | lst l => cases r1 with | lst e _ => exact ⟨_, _, .ty _, .base (.lst (k.fh _ _ e)), kit_ty hk⟩
      | _ => exact hm.elim
    · exact n_isiLL hL (kit_ty hk) p
theorem MV.da {x : Sl} {d : D} (h : MV o x d) (hd : ∀ l, d ≠ .lst l) : x = .da d := by
  rcases h with rfl | ⟨ds, rfl, _⟩
  · rfl
  · exact absurd rfl (hd ds)
theorem MV.ll {x : Sl} {l : List D} (h : MV o x (.lst l)) : LL o x (l.map Sl.da) := by
  rcases h with rfl | ⟨ds, e, hL⟩
  · rfl
  · cases e
    exact hL
theorem kb1 : kitB "NoneType" "bool" = some false := by decide +kernel
/-- two small numbers to one below h -/
theorem mod_ne {x d h : Int} (x0 : 0 ≤ x) (xh : x < h) (d0 : 0 ≤ d) (dh : d < h - 1) : (1 + x + d) % h + 1 ≠ 1 + x ∧ 0 ≤ (1 + x + d) % h ∧ (1 + x + d) % h < h := by
  have hp : 0 < h := by omega
  refine ⟨?_, Int.emod_nonneg _ (by omega), Int.emod_lt_of_pos _ hp⟩
  by_cases q : 1 + x + d < h
  · rw [Int.emod_eq_of_lt (by omega) q]
    omega
  · have e : (1 + x + d) % h = 1 + x + d - h := by
      have e2 : 1 + x + d = (1 + x + d - h) + h := by omega
      rw [e2, Int.add_emod_right, Int.emod_eq_of_lt (by omega) (by omega)]
      omega
    rw [e]
    omega
theorem n_min2' {i j : Int} (p : ∀ m : Int, m ≤ i → m ≤ j → (m = i ∨ m = j) → P (.da (.int m)) o) : AN B (rMinA K) [.da (.int i), .da (.int j)] o P := n_min2 (p _ (by split <;> omega) (by split <;> omega) (by split <;> simp))
end AB

set_option Elab.async false
set_option linter.all false
set_option maxRecDepth 100000
set_option maxHeartbeats 4000000
set_option autoImplicit false
namespace AB
open PySem L2 PySem.Spec PyProof.Rows He
namespace K07
/-! ### lists of when each helper knows -/
abbrev Kn := List (Option Int)
def knL (k : Kn) : List D := k.map optD
def knD (k : Kn) : D := .lst (knL k)
def at_ (k : Kn) (h : Int) : Option Int := (k[(h - 1).toNat]?).getD none
/-- v is earlier than x -/
def bet (v : Int) (x : Option Int) : Bool := match x with
  | none => true
  | some y => decide (v < y)
def updK (k : Kn) (h v : Int) : Kn := if bet v (at_ k h) = true then k.set (h - 1).toNat (some v) else k
def since (x : Option Int) (t : Int) : Bool := match x with
  | none => false
  | some y => decide (y ≤ t)
def startsF (k : Kn) (st : List (Int × Int)) : Kn := st.foldl (fun k p => updK k p.1 p.2) k
/-- a letter of moment t -/
def letF (k : Kn) (t : Int) (l : LR) : Kn := if l.st = t ∧ since (at_ k l.s) t = true then updK k l.r l.ar else k
def carrL (w : Wo) : List LR := (carr w []).filterMap fun n => w.ls[n]?
def momF (w : Wo) (k : Kn) (t : Int) : Kn := (carrL w).foldl (fun k l => letF k t l) k
def blank (w : Wo) : Kn := List.replicate w.hc.toNat none
def spreadF (w : Wo) (st : List (Int × Int)) : Kn := (List.range (w.last + 1).toNat).foldl (fun k (t : Nat) => momF w k t) (startsF (blank w) st)
/-- the law's own -/
def ownL (k : Kn) (l : LR) : Kn := if l.yes = [] ∧ since (at_ k l.s) l.st = true then updK k l.r l.ar else k
def ownF (w : Wo) (st : List (Int × Int)) : Kn := (List.range w.hc.toNat).foldl (fun k _ => w.ls.foldl ownL k) (startsF (blank w) st)
def takersF (w : Wo) (k : Kn) : List Str := (w.ds.filter fun r => since (at_ k r.h) r.m).map DR.n
/-- a letter that is left open -/
def opn (k : Kn) (l : LR) : Bool := decide (l.yes = []) && (since (at_ k l.s) l.st && bet l.ar (at_ k l.r))
def openF (w : Wo) (k : Kn) : Option Nat := w.ls.findIdx? (opn k)
def optN : Option Nat → D
  | none => .non
  | some i => .int i
/-- the first moment that is not one -/
def bad1 (w : Wo) (x : Option Int) : Bool := match x with
  | none => false
  | some i => !decide (0 ≤ i ∧ i ≤ w.last)
def kBad (w : Wo) (k : Kn) : Option Int := (k.find? (bad1 w)).getD none
def stBad (w : Wo) : List (Int × Int) → Option Int
  | [] => none
  | p :: r => if ¬(1 ≤ p.1 ∧ p.1 ≤ w.hc) then some p.1 else if ¬(0 ≤ p.2 ∧ p.2 ≤ w.last) then some p.2 else stBad w r
inductive Pr : D → Int × Int → Prop
  | t (a b : Int) : Pr (.tup [.int a, .int b]) (a, b)
  | l (a b : Int) : Pr (.lst [.int a, .int b]) (a, b)
abbrev BM (K : PySem.W.Frag) (Xt : Addr → List (Str × D) → O → Prop) (m : Int) (o : O) : Prop := Xt (ga K "BadMoment") [("moment", .int m)] o
/-- what spread_of does -/
def spOn (K : PySem.W.Frag) (w : Wo) (st : List (Int × Int)) (o : O) (Rt : Kn → Prop) (Xt : Addr → List (Str × D) → O → Prop) : Prop :=
  if 24 < st.length then Xt (ga K "TooMany") [("what", .str "starts")] o else match stBad w st with
  | some m => BM K Xt m o
  | none => Rt (spreadF w st)
def ownRt (o : O) (ds : List D) (Rt : Sl → O → Prop) : Prop := ∀ (i : Nat) o', Fp o o' → o.length ≤ i → o'[i]? = some (.lst (ds.map Sl.da)) → Rt (.ow i) o'
def c_spread_of (K : PySem.W.Frag) : Con := fun ss o Rt Xt => ∃ (w : Wo) (ds : List D) (st : List (Int × Int)), ss = [.da (planD K w), .da (.lst ds)] ∧ w.ok ∧ Paired Pr ds st ∧ st.length ≤ 1000 ∧
  spOn K w st o (fun k => ownRt o (knL k) Rt) Xt
def c_reach_of (K : PySem.W.Frag) : Con := fun ss o Rt Xt => ∃ (w : Wo) (h m : Int), ss = [.da (planD K w), .da (.int h), .da (.int m)] ∧ w.ok ∧ spOn K w [(h, m)] o (fun k => ownRt o (knL k) Rt) Xt
def knOn (K : PySem.W.Frag) (w : Wo) (k : Kn) (o : O) (ok : Prop) (Xt : Addr → List (Str × D) → O → Prop) : Prop := match kBad w k with
  | some m => BM K Xt m o
  | none => ok
def c_check_knowing (K : PySem.W.Frag) : Con := fun ss o Rt Xt => ∃ (w : Wo) (k : Kn), ss = [.da (planD K w), .da (knD k)] ∧ knOn K w k o (Rt (.da .non) o) Xt
def c_judge_knowing (K : PySem.W.Frag) : Con := fun ss o Rt Xt => ∃ (w : Wo) (k : Kn), ss = [.da (planD K w), .da (knD k)] ∧ w.ok ∧ k.length = w.hc.toNat ∧ knOn K w k o (∀ o', Fp o o' → Rt (.da (optN (openF w k))) o') Xt
def c_takers_of (K : PySem.W.Frag) : Con := fun ss o Rt Xt => ∃ (w : Wo) (k : Kn), ss = [.da (planD K w), .da (knD k)] ∧ w.ok ∧ k.length = w.hc.toNat ∧ knOn K w k o (ownRt o (txs (takersF w k)) Rt) Xt
def coneF (w : Wo) (n : Str) : List Str := match w.ds.find? fun r => decide (r.n = n) with
  | some r => takersF w (spreadF w [(r.h, r.m)])
  | none => []
def c_cone_of (K : PySem.W.Frag) : Con := fun ss o Rt Xt => ∃ (w : Wo) (n : Str), ss = [.da (planD K w), .da (.str n)] ∧ w.ok ∧ (n ∉ w.ds.map DR.n → Xt (ga K "BadNames") [("words", .lst [.str n])] o) ∧ (n ∈ w.ds.map DR.n → ownRt o (txs (coneF w n)) Rt)
def toget (w : Wo) (a b : Str) : Bool := match w.ds.find? (fun r => decide (r.n = a)), w.ds.find? (fun r => decide (r.n = b)) with
  | some r, some s => decide (r.h = s.h ∧ r.m = s.m)
  | _, _ => false
def c_are_together (K : PySem.W.Frag) : Con := fun ss o Rt Xt => ∃ (w : Wo) (a b : Str), ss = [.da (planD K w), .da (.str a), .da (.str b)] ∧ w.ok ∧ (¬(a ∈ w.ds.map DR.n ∧ b ∈ w.ds.map DR.n) → Xt (ga K "BadNames") [("words", .lst [.str a, .str b])] o) ∧ (a ∈ w.ds.map DR.n → b ∈ w.ds.map DR.n → Rt (.da (.bl (toget w a b))) o)
/-! ### the law's functions -/
def c__law_own_spread (K : PySem.W.Frag) : Con := fun ss o Rt _ => ∃ (w : Wo) (ds : List D) (st : List (Int × Int)), ss = [.da (worldD w), .da (.lst ds)] ∧ w.ok ∧ Paired Pr ds st ∧ (∀ p, p ∈ st → 1 ≤ p.1 ∧ p.1 ≤ w.hc) ∧ ownRt o (knL (ownF w st)) Rt
def c__law_own_takers (K : PySem.W.Frag) : Con := fun ss o Rt _ => ∃ (w : Wo) (k : Kn), ss = [.da (worldD w), .da (knD k)] ∧ w.ok ∧ k.length = w.hc.toNat ∧ ownRt o (txs (takersF w k)) Rt
/-- the world that the law draws -/
structure Small (w : Wo) : Prop where
  ok : w.ok
  h2 : 2 ≤ w.hc
  h3 : w.hc ≤ 3
  t1 : 1 ≤ w.last
  t4 : w.last ≤ 4
  d3 : 3 ≤ w.ds.length
def c__law_word_world (K : PySem.W.Frag) : Con := fun ss o Rt _ => ∃ (j : Nat), ss = [.ow j] ∧ Pu o j ∧ ∀ (w : Wo) o', Small w → Fj j o o' → Rt (.da (worldD w)) o'
def c__law_open_letter (K : PySem.W.Frag) : Con := fun ss o Rt _ => ∃ (w : Wo) (k : Kn), ss = [.da (worldD w), .da (knD k)] ∧ w.ok ∧ k.length = w.hc.toNat ∧ Rt (.da (optN (openF w k))) o
def inRg (w : Wo) (x : Option Int) : Prop := ∀ i, x = some i → 0 ≤ i ∧ i ≤ w.last
/-- all lists -/
structure AllK (w : Wo) (l : List Kn) : Prop where
  len : ∀ k, k ∈ l → k.length = w.hc.toNat
  rg : ∀ k, k ∈ l → ∀ x, x ∈ k → inRg w x
  all : ∀ k : Kn, k.length = w.hc.toNat → (∀ x, x ∈ k → inRg w x) → k ∈ l
  few : l.length ≤ 1000
def c__law_every_list (K : PySem.W.Frag) : Con := fun ss o Rt _ => ∃ (w : Wo), ss = [.da (worldD w)] ∧ Small w ∧ ∀ (l : List Kn) o', AllK w l → Fp o o' → Rt (.da (.lst (l.map knD))) o'
/-- a is not later than b -/
def Le (a b : Option Int) : Prop := match b with
  | none => True
  | some y => ∃ x, a = some x ∧ x ≤ y
def Hold (k : Kn) (st : List (Int × Int)) : Prop := ∀ p, p ∈ st → Le (at_ k p.1) (some p.2)
structure Top (w : Wo) (cl : List Kn) (st : List (Int × Int)) (S : Kn) : Prop where
  mem : S ∈ cl
  hold : Hold S st
  top : ∀ k, k ∈ cl → Hold k st → ∀ i : Nat, i < w.hc.toNat → Le ((k[i]?).getD none) ((S[i]?).getD none)
  len : ∀ k, k ∈ cl → k.length = w.hc.toNat
  pos : ∀ k, k ∈ cl → ∀ i, some i ∈ k → 0 ≤ i
def c__law_least_closed (K : PySem.W.Frag) : Con := fun ss o Rt _ => ∃ (w : Wo) (cl : List Kn) (ds : List D) (st : List (Int × Int)) (S : Kn), ss = [.da (worldD w), .da (.lst (cl.map knD)), .da (.lst ds)] ∧ w.ok ∧ Paired Pr ds st ∧ (∀ p, p ∈ st → 1 ≤ p.1 ∧ p.1 ≤ w.hc) ∧ Top w cl st S ∧ ownRt o (knL S) Rt
def spTold (w : Wo) (st : List (Int × Int)) : D := if 24 < st.length then .tup [.str "many", .str "starts"] else match stBad w st with
  | some m => .tup [.str "moment", .int m]
  | none => .tup [.str "told", knD (spreadF w st)]
def c__law_spread_told (K : PySem.W.Frag) : Con := fun ss o Rt _ => ∃ (w : Wo) (ds : List D) (st : List (Int × Int)), ss = [.da (planD K w), .da (.lst ds)] ∧ w.ok ∧ Paired Pr ds st ∧ st.length ≤ 1000 ∧ ∀ o', Fp o o' → Rt (.da (spTold w st)) o'
/-- asked with a list that is none -/
def c__law_list_told (K : PySem.W.Frag) : Con := fun ss o Rt _ => ∃ (w : Wo) (i : Int) (k : Kn) (m : Int), ss = [.da (planD K w), .da (.int i), .da (knD k)] ∧ w.ok ∧ k.length = w.hc.toNat ∧ kBad w k = some m ∧ ∀ o', Fp o o' → Rt (.da (.tup [.str "moment", .int m])) o'
/-- asked with names that are none -/
def c__law_name_told (K : PySem.W.Frag) : Con := fun ss o Rt _ => ∃ (w : Wo) (i : Int) (a b : Str), ss = [.da (planD K w), .da (.int i), .da (.str a), .da (.str b)] ∧ w.ok ∧ (i = 0 ∧ a ∉ w.ds.map DR.n ∨ i = 1 ∧ ¬(a ∈ w.ds.map DR.n ∧ b ∈ w.ds.map DR.n)) ∧ ∀ o', Fp o o' → Rt (.da (.tup [.str "names", .lst (if i = 0 then [.str a] else [.str a, .str b])])) o'
def c__law_reach_told (K : PySem.W.Frag) : Con := fun ss o Rt _ => ∃ (w : Wo) (h m : Int), ss = [.da (planD K w), .da (.int h), .da (.int m)] ∧ w.ok ∧ ∀ o', Fp o o' → Rt (.da (spTold w [(h, m)])) o'
/-- all closed lists -/
structure Clo (w : Wo) (cl : List Kn) : Prop where
  len : ∀ k, k ∈ cl → k.length = w.hc.toNat
  rg : ∀ k, k ∈ cl → ∀ x, x ∈ k → inRg w x
  opn : ∀ k, k ∈ cl → openF w k = none
  all : ∀ k : Kn, k.length = w.hc.toNat → (∀ x, x ∈ k → inRg w x) → openF w k = none → k ∈ cl
def c__law_decisions_right (K : PySem.W.Frag) : Con := fun ss o Rt _ => ∃ (w : Wo) (cl : List Kn), ss = [.da (planD K w), .da (worldD w), .da (.lst (cl.map knD))] ∧ Small w ∧ Clo w cl ∧ ∀ o', Fp o o' → Rt (.da (.bl true)) o'
def c__law_errors_right (K : PySem.W.Frag) : Con := fun ss o Rt _ => ∃ (j : Nat) (w : Wo), ss = [.ow j, .da (planD K w), .da (worldD w)] ∧ Pu o j ∧ Small w ∧ ∀ o', Fj j o o' → Rt (.da (.bl true)) o'
def c__law_great_right (K : PySem.W.Frag) : Con := fun ss o Rt _ => ∃ (j : Nat), ss = [.ow j] ∧ Pu o j ∧ ∀ o', Fj j o o' → Rt (.da (.bl true)) o'
end K07
end AB

set_option Elab.async false
set_option linter.all false
set_option maxRecDepth 100000
set_option maxHeartbeats 4000000
set_option autoImplicit false
namespace AB
open PySem L2 PySem.Spec PyProof.Rows He
namespace K07
structure Tx (K : PySem.W.Frag) (mg : Str → Option Value) : Prop where
  b_abs : mg "abs" = none
  b_bool : mg "bool" = none
  b_int : mg "int" = none
  b_isinstance : mg "isinstance" = none
  b_len : mg "len" = none
  b_list : mg "list" = none
  b_min : mg "min" = none
  b_range : mg "range" = none
  b_str : mg "str" = none
  b_sum : mg "sum" = none
  b_tuple : mg "tuple" = none
  n_COURSES : ∃ u, mg "COURSES" = some u ∧ RelV (.int 12) u
  n_DECISIONS : ∃ u, mg "DECISIONS" = some u ∧ RelV (.int 40) u
  n_FIRSTS : ∃ u, mg "FIRSTS" = some u ∧ RelV (.str "abcdefghijklmnopqrstuvwxyz") u
  n_HELPERS : ∃ u, mg "HELPERS" = some u ∧ RelV (.int 8) u
  n_LETTERS : ∃ u, mg "LETTERS" = some u ∧ RelV (.int 160) u
  n_MISHAPS : ∃ u, mg "MISHAPS" = some u ∧ RelV (.int 6) u
  n_MOMENTS : ∃ u, mg "MOMENTS" = some u ∧ RelV (.int 24) u
  n_NUMBERS : ∃ u, mg "NUMBERS" = some u ∧ RelV (.int 1000000000) u
  n_Plan : ∃ u, mg "Plan" = some u ∧ RelV (.ref (He.ga K "Plan")) u
  n_REST : ∃ u, mg "REST" = some u ∧ RelV (.str "abcdefghijklmnopqrstuvwxyz0123456789.") u
  n_RULES : ∃ u, mg "RULES" = some u ∧ RelV (.int 200) u
  n_SIGHTS : ∃ u, mg "SIGHTS" = some u ∧ RelV (.int 24) u
  n_STARTS : ∃ u, mg "STARTS" = some u ∧ RelV (.int 24) u
  n_WORD_LENGTH : ∃ u, mg "WORD_LENGTH" = some u ∧ RelV (.int 12) u
  x_TooMany : ExF K mg "TooMany" (He.ga K "TooMany") (He.ma K (He.ga K "TooMany") "__init__") ["what"]
  x_BadPlan : ExF K mg "BadPlan" (He.ga K "BadPlan") (He.ma K (He.ga K "BadPlan") "__init__") ["what", "number"]
  x_BadCourse : ExF K mg "BadCourse" (He.ga K "BadCourse") (He.ma K (He.ga K "BadCourse") "__init__") ["number"]
  x_BadMoment : ExF K mg "BadMoment" (He.ga K "BadMoment") (He.ma K (He.ga K "BadMoment") "__init__") ["moment"]
  x_BadNames : ExF K mg "BadNames" (He.ga K "BadNames") (He.ma K (He.ga K "BadNames") "__init__") ["words"]
  c_Plan : L2.Cls K (He.ga K "Plan")
  na_Plan_course_rows : NoAttr K (He.ga K "Plan") "course_rows"
  na_Plan_decision_places : NoAttr K (He.ga K "Plan") "decision_places"
  na_Plan_decision_rows : NoAttr K (He.ga K "Plan") "decision_rows"
  na_Plan_helper_count : NoAttr K (He.ga K "Plan") "helper_count"
  na_Plan_last_moment : NoAttr K (He.ga K "Plan") "last_moment"
  na_Plan_letter_rows : NoAttr K (He.ga K "Plan") "letter_rows"
  na_Plan_mishap_words : NoAttr K (He.ga K "Plan") "mishap_words"
  na_Plan_rule_rows : NoAttr K (He.ga K "Plan") "rule_rows"
  na_Plan_sight_rows : NoAttr K (He.ga K "Plan") "sight_rows"
  apart : Apart K mg (He.ga K "ApartError")
  m_TooMany_TooMany : PySem.W.exmOne K (.ref (He.ga K "TooMany")) (.ref (He.ga K "TooMany")) = some true
  m_TooMany_BadPlan : PySem.W.exmOne K (.ref (He.ga K "TooMany")) (.ref (He.ga K "BadPlan")) = some false
  m_TooMany_BadCourse : PySem.W.exmOne K (.ref (He.ga K "TooMany")) (.ref (He.ga K "BadCourse")) = some false
  m_TooMany_BadMoment : PySem.W.exmOne K (.ref (He.ga K "TooMany")) (.ref (He.ga K "BadMoment")) = some false
  m_TooMany_BadNames : PySem.W.exmOne K (.ref (He.ga K "TooMany")) (.ref (He.ga K "BadNames")) = some false
  m_BadPlan_TooMany : PySem.W.exmOne K (.ref (He.ga K "BadPlan")) (.ref (He.ga K "TooMany")) = some false
  m_BadPlan_BadPlan : PySem.W.exmOne K (.ref (He.ga K "BadPlan")) (.ref (He.ga K "BadPlan")) = some true
  m_BadPlan_BadCourse : PySem.W.exmOne K (.ref (He.ga K "BadPlan")) (.ref (He.ga K "BadCourse")) = some false
  m_BadPlan_BadMoment : PySem.W.exmOne K (.ref (He.ga K "BadPlan")) (.ref (He.ga K "BadMoment")) = some false
  m_BadPlan_BadNames : PySem.W.exmOne K (.ref (He.ga K "BadPlan")) (.ref (He.ga K "BadNames")) = some false
  m_BadCourse_TooMany : PySem.W.exmOne K (.ref (He.ga K "BadCourse")) (.ref (He.ga K "TooMany")) = some false
  m_BadCourse_BadPlan : PySem.W.exmOne K (.ref (He.ga K "BadCourse")) (.ref (He.ga K "BadPlan")) = some false
  m_BadCourse_BadCourse : PySem.W.exmOne K (.ref (He.ga K "BadCourse")) (.ref (He.ga K "BadCourse")) = some true
  m_BadCourse_BadMoment : PySem.W.exmOne K (.ref (He.ga K "BadCourse")) (.ref (He.ga K "BadMoment")) = some false
  m_BadCourse_BadNames : PySem.W.exmOne K (.ref (He.ga K "BadCourse")) (.ref (He.ga K "BadNames")) = some false
  m_BadMoment_TooMany : PySem.W.exmOne K (.ref (He.ga K "BadMoment")) (.ref (He.ga K "TooMany")) = some false
  m_BadMoment_BadPlan : PySem.W.exmOne K (.ref (He.ga K "BadMoment")) (.ref (He.ga K "BadPlan")) = some false
  m_BadMoment_BadCourse : PySem.W.exmOne K (.ref (He.ga K "BadMoment")) (.ref (He.ga K "BadCourse")) = some false
  m_BadMoment_BadMoment : PySem.W.exmOne K (.ref (He.ga K "BadMoment")) (.ref (He.ga K "BadMoment")) = some true
  m_BadMoment_BadNames : PySem.W.exmOne K (.ref (He.ga K "BadMoment")) (.ref (He.ga K "BadNames")) = some false
  m_BadNames_TooMany : PySem.W.exmOne K (.ref (He.ga K "BadNames")) (.ref (He.ga K "TooMany")) = some false
  m_BadNames_BadPlan : PySem.W.exmOne K (.ref (He.ga K "BadNames")) (.ref (He.ga K "BadPlan")) = some false
  m_BadNames_BadCourse : PySem.W.exmOne K (.ref (He.ga K "BadNames")) (.ref (He.ga K "BadCourse")) = some false
  m_BadNames_BadMoment : PySem.W.exmOne K (.ref (He.ga K "BadNames")) (.ref (He.ga K "BadMoment")) = some false
  m_BadNames_BadNames : PySem.W.exmOne K (.ref (He.ga K "BadNames")) (.ref (He.ga K "BadNames")) = some true
def r_check_most (K : PySem.W.Frag) (W : WX) : TS :=
  (tIfS (tTest (tOp rGtA (tVar 1) (tVar 2))) (tRaiseX K "TooMany" ["what"] W (tCons (tVar 0) tNil)) tNext)
def r_check_numbers (K : PySem.W.Frag) (W : WX) : TS :=
  (tFor (iSq K (tVar 0)) (gName 2) (tIfS (tOr (tTest (tOp rGtA (tVar 2) (tVar 1))) (tTest (tOp rLtA (tVar 2) (tUn rUnA (tVar 1))))) (tRaiseX K "TooMany" ["what"] W (tCons (tC (.str "numbers")) tNil)) tNext))
def r_check_name (K : PySem.W.Frag) (W : WX) : TS :=
  (tIfS (tTest (tOp (rNotInA K) (tVar 1) (tFld K (tVar 0) "decision_places"))) (tRaiseX K "BadNames" ["words"] W (tCons (tLst (tCons (tVar 1) tNil)) tNil)) tNext)
def r_check_moment (K : PySem.W.Frag) (W : WX) : TS :=
  (tIfS (tNot (tTest (tChain rLeA rLeA (tC (.int 0)) (tVar 1) (tFld K (tVar 0) "last_moment")))) (tRaiseX K "BadMoment" ["moment"] W (tCons (tVar 1) tNil)) tNext)
def r_check_helper (K : PySem.W.Frag) (W : WX) : TS :=
  (tIfS (tNot (tTest (tChain rLeA rLeA (tC (.int 1)) (tVar 1) (tFld K (tVar 0) "helper_count")))) (tRaiseX K "BadMoment" ["moment"] W (tCons (tVar 1) tNil)) tNext)
def r_spread_of (K : PySem.W.Frag) (W : WX) : TS :=
  (tSeq (tDrop (tCallS (SpC (c_check_most K)) (WE W) (tCons (tC (.str "starts")) (tCons (tCB (rLenA K) (tCons (tVar 1) tNil)) (tCons (tC (.int 24)) tNil)))))
  (tSeq (tFor (iSq K (tVar 1)) (gUn K 2 (gCons (gName 2) (gCons (gName 3) gNil))) (tSeq (tDrop (tCallS (SpC (c_check_helper K)) (WE W) (tCons (tVar 0) (tCons (tVar 2) tNil))))
  (tDrop (tCallS (SpC (c_check_moment K)) (WE W) (tCons (tVar 0) (tCons (tVar 3) tNil))))))
  (tSeq (tAsg (tLc (iRng1 (tCons (tMeI (He.ga K "Plan") "helpers" (SpC (c_Plan_helpers K)) W (tVar 0) tNil) tNil)) (gName 2) tYes (tC .non) [2]) (gName 4))
  (tSeq (tFor (iSq K (tVar 1)) (gUn K 2 (gCons (gName 2) (gCons (gName 3) gNil))) (tIfS (tOr (tTest (tOp rIsA (tOp (rIxA K) (tVar 4) (tOp rSubA (tVar 2) (tC (.int 1)))) (tC .non))) (tTest (tOp rLtA (tVar 3) (tOp (rIxA K) (tVar 4) (tOp rSubA (tVar 2) (tC (.int 1))))))) (tAsg (tVar 3) (gSub (tVar 4) (tOp rSubA (tVar 2) (tC (.int 1))) rSetL)) tNext))
  (tSeq (tAsg (tMeI (He.ga K "Plan") "letters" (SpC (c_Plan_letters K)) W (tVar 0) tNil) (gName 5))
  (tSeq (tAsg (tMeI (He.ga K "Plan") "carried" (SpC (c_Plan_carried K)) W (tVar 0) (tCons (tC (.int 0)) tNil)) (gName 6))
  (tSeq (tFor (iRng1 (tCons (tOp rAddA (tMeI (He.ga K "Plan") "last" (SpC (c_Plan_last K)) W (tVar 0) tNil) (tC (.int 1))) tNil)) (gName 3) (tFor (iSq K (tVar 6)) (gName 7) (tSeq (tAsg (tSl (rSlW K) (tOp (rIxA K) (tVar 5) (tVar 7)) tNoPart (tPart (tC (.int 4)))) (gUn K 4 (gCons (gName 8) (gCons (gName 9) (gCons (gName 10) (gCons (gName 11) gNil))))))
  (tIfS (tAnd (tTest (tOp (rEqP K) (tVar 9) (tVar 3))) (tAnd (tTest (tOp rIsNotA (tOp (rIxA K) (tVar 4) (tOp rSubA (tVar 8) (tC (.int 1)))) (tC .non))) (tTest (tOp rLeA (tOp (rIxA K) (tVar 4) (tOp rSubA (tVar 8) (tC (.int 1)))) (tVar 3))))) (tIfS (tOr (tTest (tOp rIsA (tOp (rIxA K) (tVar 4) (tOp rSubA (tVar 10) (tC (.int 1)))) (tC .non))) (tTest (tOp rLtA (tVar 11) (tOp (rIxA K) (tVar 4) (tOp rSubA (tVar 10) (tC (.int 1))))))) (tAsg (tVar 11) (gSub (tVar 4) (tOp rSubA (tVar 10) (tC (.int 1))) rSetL)) tNext) tNext))))
  (tRet (tVar 4)))))))))
def r_reach_of (K : PySem.W.Frag) (W : WX) : TS :=
  (tRet (tCallS (SpC (c_spread_of K)) (WE W) (tCons (tVar 0) (tCons (tLst (tCons (tTup (tCons (tVar 1) (tCons (tVar 2) tNil))) tNil)) tNil))))
def r_check_knowing (K : PySem.W.Frag) (W : WX) : TS :=
  (tFor (iSq K (tVar 1)) (gName 2) (tIfS (tTest (tOp rIsNotA (tVar 2) (tC .non))) (tDrop (tCallS (SpC (c_check_moment K)) (WE W) (tCons (tVar 0) (tCons (tVar 2) tNil)))) tNext))
def r_judge_knowing (K : PySem.W.Frag) (W : WX) : TS :=
  (tSeq (tDrop (tCallS (SpC (c_check_knowing K)) (WE W) (tCons (tVar 0) (tCons (tVar 1) tNil))))
  (tSeq (tAsg (tMeI (He.ga K "Plan") "letters" (SpC (c_Plan_letters K)) W (tVar 0) tNil) (gName 2))
  (tSeq (tFor (iSq K (tMeI (He.ga K "Plan") "carried" (SpC (c_Plan_carried K)) W (tVar 0) (tCons (tC (.int 0)) tNil))) (gName 3) (tSeq (tAsg (tSl (rSlW K) (tOp (rIxA K) (tVar 2) (tVar 3)) tNoPart (tPart (tC (.int 4)))) (gUn K 4 (gCons (gName 4) (gCons (gName 5) (gCons (gName 6) (gCons (gName 7) gNil))))))
  (tIfS (tAnd (tTest (tOp rIsNotA (tOp (rIxA K) (tVar 1) (tOp rSubA (tVar 4) (tC (.int 1)))) (tC .non))) (tTest (tOp rLeA (tOp (rIxA K) (tVar 1) (tOp rSubA (tVar 4) (tC (.int 1)))) (tVar 5)))) (tIfS (tOr (tTest (tOp rIsA (tOp (rIxA K) (tVar 1) (tOp rSubA (tVar 6) (tC (.int 1)))) (tC .non))) (tTest (tOp rGtA (tOp (rIxA K) (tVar 1) (tOp rSubA (tVar 6) (tC (.int 1)))) (tVar 7)))) (tRet (tVar 3)) tNext) tNext)))
  (tRet (tC .non)))))
def r_takers_of (K : PySem.W.Frag) (W : WX) : TS :=
  (tSeq (tDrop (tCallS (SpC (c_check_knowing K)) (WE W) (tCons (tVar 0) (tCons (tVar 1) tNil))))
  (tSeq (tAsg (tLst tNil) (gName 2))
  (tSeq (tFor (iSq K (tMeI (He.ga K "Plan") "decisions" (SpC (c_Plan_decisions K)) W (tVar 0) tNil)) (gName 3) (tSeq (tAsg (tOp (rIxA K) (tVar 1) (tOp rSubA (tOp (rIxA K) (tVar 3) (tC (.int 1))) (tC (.int 1)))) (gName 4))
  (tIfS (tAnd (tTest (tOp rIsNotA (tVar 4) (tC .non))) (tTest (tOp rLeA (tVar 4) (tOp (rIxA K) (tVar 3) (tC (.int 2)))))) (tDrop (tBM K "list" rAppend (tVar 2) (tCons (tOp (rIxA K) (tVar 3) (tC (.int 0))) tNil))) tNext)))
  (tRet (tVar 2)))))
def r_cone_of (K : PySem.W.Frag) (W : WX) : TS :=
  (tSeq (tDrop (tCallS (SpC (c_check_name K)) (WE W) (tCons (tVar 0) (tCons (tVar 1) tNil))))
  (tSeq (tAsg (tOp (rIxA K) (tMeI (He.ga K "Plan") "decisions" (SpC (c_Plan_decisions K)) W (tVar 0) tNil) (tMeI (He.ga K "Plan") "place" (SpC (c_Plan_place K)) W (tVar 0) (tCons (tVar 1) tNil))) (gName 2))
  (tRet (tCallS (SpC (c_takers_of K)) (WE W) (tCons (tVar 0) (tCons (tCallS (SpC (c_reach_of K)) (WE W) (tCons (tVar 0) (tCons (tOp (rIxA K) (tVar 2) (tC (.int 1))) (tCons (tOp (rIxA K) (tVar 2) (tC (.int 2))) tNil)))) tNil))))))
def r_are_together (K : PySem.W.Frag) (W : WX) : TS :=
  (tSeq (tAsg (tMeI (He.ga K "Plan") "names" (SpC (c_Plan_names K)) W (tVar 0) tNil) (gName 3))
  (tSeq (tIfS (tOr (tTest (tOp (rNotInA K) (tVar 1) (tVar 3))) (tTest (tOp (rNotInA K) (tVar 2) (tVar 3)))) (tRaiseX K "BadNames" ["words"] W (tCons (tLst (tCons (tVar 1) (tCons (tVar 2) tNil))) tNil)) tNext)
  (tSeq (tAsg (tMeI (He.ga K "Plan") "decisions" (SpC (c_Plan_decisions K)) W (tVar 0) tNil) (gName 4))
  (tSeq (tPar 5 6 (tCons (tOp (rIxA K) (tVar 4) (tMeI (He.ga K "Plan") "place" (SpC (c_Plan_place K)) W (tVar 0) (tCons (tVar 1) tNil))) (tCons (tOp (rIxA K) (tVar 4) (tMeI (He.ga K "Plan") "place" (SpC (c_Plan_place K)) W (tVar 0) (tCons (tVar 2) tNil))) tNil)))
  (tRet (tOp (rEqP K) (tTup (tCons (tOp (rIxA K) (tVar 5) (tC (.int 1))) (tCons (tOp (rIxA K) (tVar 5) (tC (.int 2))) tNil))) (tTup (tCons (tOp (rIxA K) (tVar 6) (tC (.int 1))) (tCons (tOp (rIxA K) (tVar 6) (tC (.int 2))) tNil)))))))))
def r_is_word (K : PySem.W.Frag) (W : WX) : TS :=
  (tSeq (tIfS (tOr (tNot (tB (tCB (rIsi K) (tCons (tVar 0) (tCons (tC (.ty "str")) tNil))))) (tOr (tTest (tOp rLtA (tCB (rLenA K) (tCons (tVar 0) tNil)) (tC (.int 1)))) (tTest (tOp rGtA (tCB (rLenA K) (tCons (tVar 0) tNil)) (tC (.int 12)))))) (tRet (tC (.bl false))) tNext)
  (tSeq (tIfS (tOr (tTest (tOp (rNotInA K) (tOp (rIxA K) (tVar 0) (tC (.int 0))) (tC (.str "abcdefghijklmnopqrstuvwxyz")))) (tTest (tOp (rInA K) (tVar 0) (tLst (tCons (tC (.str "if")) (tCons (tC (.str "unless")) tNil)))))) (tRet (tC (.bl false))) tNext)
  (tSeq (tFor (iSq K (tVar 0)) (gName 1) (tIfS (tTest (tOp (rNotInA K) (tVar 1) (tC (.str "abcdefghijklmnopqrstuvwxyz0123456789.")))) (tRet (tC (.bl false))) tNext))
  (tRet (tC (.bl true))))))
def r_check_bounds (K : PySem.W.Frag) (W : WX) : TS :=
  (tSeq (tDrop (tCallS (SpC (c_check_most K)) (WE W) (tCons (tC (.str "helpers")) (tCons (tVar 0) (tCons (tC (.int 8)) tNil)))))
  (tSeq (tDrop (tCallS (SpC (c_check_most K)) (WE W) (tCons (tC (.str "moments")) (tCons (tVar 1) (tCons (tC (.int 24)) tNil)))))
  (tSeq (tDrop (tCallS (SpC (c_check_most K)) (WE W) (tCons (tC (.str "mishaps")) (tCons (tOp (rIxA K) (tVar 2) (tC (.int 0))) (tCons (tC (.int 6)) tNil)))))
  (tSeq (tDrop (tCallS (SpC (c_check_most K)) (WE W) (tCons (tC (.str "courses")) (tCons (tOp (rIxA K) (tVar 2) (tC (.int 1))) (tCons (tC (.int 12)) tNil)))))
  (tSeq (tDrop (tCallS (SpC (c_check_most K)) (WE W) (tCons (tC (.str "decisions")) (tCons (tOp (rIxA K) (tVar 2) (tC (.int 2))) (tCons (tC (.int 40)) tNil)))))
  (tSeq (tDrop (tCallS (SpC (c_check_most K)) (WE W) (tCons (tC (.str "rules")) (tCons (tOp (rIxA K) (tVar 2) (tC (.int 3))) (tCons (tC (.int 200)) tNil)))))
  (tSeq (tDrop (tCallS (SpC (c_check_most K)) (WE W) (tCons (tC (.str "sights")) (tCons (tOp (rIxA K) (tVar 2) (tC (.int 4))) (tCons (tC (.int 24)) tNil)))))
  (tSeq (tDrop (tCallS (SpC (c_check_most K)) (WE W) (tCons (tC (.str "letters")) (tCons (tOp (rIxA K) (tVar 2) (tC (.int 5))) (tCons (tC (.int 160)) tNil)))))
  (tSeq (tAsg (tLst tNil) (gName 6))
  (tSeq (tFor (iSq K (tVar 3)) (gUn K 5 (gCons (gName 7) (gCons (gName 8) (gCons (gName 9) (gCons (gName 10) (gCons (gName 11) gNil)))))) (tDrop (tBM K "list" rExtend (tVar 6) (tCons (tLst (tCons (tVar 10) (tCons (tVar 11) tNil))) tNil))))
  (tSeq (tDrop (tBM K "list" rExtend (tVar 6) (tCons (tLc (iSq K (tVar 4)) (gName 12) tYes (tOp (rIxA K) (tVar 12) (tC (.int 2))) [12]) tNil)))
  (tSeq (tDrop (tBM K "list" rExtend (tVar 6) (tCons (tLc (iSq K (tVar 5)) (gName 12) tYes (tOp (rIxA K) (tVar 12) (tC (.int 4))) [12]) tNil)))
  (tDrop (tCallS (SpC (c_check_numbers K)) (WE W) (tCons (tVar 6) (tCons (tC (.int 1000000000)) tNil))))))))))))))))
def r_in_order (K : PySem.W.Frag) (W : WX) : TS :=
  (tSeq (tAsg (tUn rUnA (tC (.int 1))) (gName 2))
  (tSeq (tFor (iSq K (tVar 0)) (gName 3) (tSeq (tIfS (tOr (tTest (tOp (rNotInA K) (tVar 3) (tVar 1))) (tTest (tOp rLeA (tBM K "list" (rIndexD K) (tVar 1) (tCons (tVar 3) tNil)) (tVar 2)))) (tRet (tC (.bl false))) tNext)
  (tAsg (tBM K "list" (rIndexD K) (tVar 1) (tCons (tVar 3) tNil)) (gName 2))))
  (tRet (tC (.bl true)))))
def r_are_sides (K : PySem.W.Frag) (W : WX) : TS :=
  (tSeq (tIfS (tOr (tNot (tB (tCallS (SpC (c_in_order K)) (WE W) (tCons (tVar 0) (tCons (tVar 2) tNil))))) (tNot (tB (tCallS (SpC (c_in_order K)) (WE W) (tCons (tVar 1) (tCons (tVar 2) tNil)))))) (tRet (tC (.bl false))) tNext)
  (tRet (tOp (rEqP K) (tLc (iSq K (tVar 0)) (gName 3) (tTest (tOp (rInA K) (tVar 3) (tVar 1))) (tVar 3) [3]) (tLst tNil))))
def r_check_mishaps (K : PySem.W.Frag) (W : WX) : TS :=
  (tFor (iRng1 (tCons (tCB (rLenA K) (tCons (tVar 0) tNil)) tNil)) (gName 1) (tIfS (tOr (tNot (tB (tCallS (SpC (c_is_word K)) (WE W) (tCons (tOp (rIxA K) (tVar 0) (tVar 1)) tNil)))) (tTest (tOp (rInA K) (tOp (rIxA K) (tVar 0) (tVar 1)) (tSl (rSlW K) (tVar 0) tNoPart (tPart (tVar 1)))))) (tRaiseX K "BadPlan" ["what", "number"] W (tCons (tC (.str "mishap")) (tCons (tVar 1) tNil))) tNext))
def r_check_courses (K : PySem.W.Frag) (W : WX) : TS :=
  (tSeq (tIfS (tOr (tTest (tOp (rEqP K) (tVar 0) (tLst tNil))) (tTest (tOp (rNeP K) (tOp (rIxA K) (tVar 0) (tC (.int 0))) (tLst tNil)))) (tRaiseX K "BadPlan" ["what", "number"] W (tCons (tC (.str "course")) (tCons (tC (.int 0)) tNil))) tNext)
  (tFor (iRng1 (tCons (tCB (rLenA K) (tCons (tVar 0) tNil)) tNil)) (gName 2) (tIfS (tOr (tNot (tB (tCallS (SpC (c_in_order K)) (WE W) (tCons (tOp (rIxA K) (tVar 0) (tVar 2)) (tCons (tVar 1) tNil))))) (tTest (tOp (rInA K) (tOp (rIxA K) (tVar 0) (tVar 2)) (tSl (rSlW K) (tVar 0) tNoPart (tPart (tVar 2)))))) (tRaiseX K "BadPlan" ["what", "number"] W (tCons (tC (.str "course")) (tCons (tVar 2) tNil))) tNext)))
def r_check_decisions (K : PySem.W.Frag) (W : WX) : TS :=
  (tSeq (tAsg tDNewK (gName 3))
  (tFor (iRng1 (tCons (tCB (rLenA K) (tCons (tVar 0) tNil)) tNil)) (gName 4) (tSeq (tAsg (tOp (rIxA K) (tVar 0) (tVar 4)) (gUn K 5 (gCons (gName 5) (gCons (gName 6) (gCons (gName 7) (gCons (gName 8) (gCons (gName 9) gNil)))))))
  (tSeq (tAsg (tAndV (tChain rLeA rLeA (tC (.int 1)) (tVar 6) (tVar 1)) (tAndV (tChain rLeA rLeA (tC (.int 0)) (tVar 7) (tVar 2)) (tOp rLeA (tVar 8) (tVar 9)))) (gName 10))
  (tSeq (tIfS (tOr (tNot (tB (tCallS (SpC (c_is_word K)) (WE W) (tCons (tVar 5) tNil)))) (tOr (tTest (tOp (rInA K) (tVar 5) (tVar 3))) (tNot (tB (tVar 10))))) (tRaiseX K "BadPlan" ["what", "number"] W (tCons (tC (.str "decision")) (tCons (tVar 4) tNil))) tNext)
  (sDPut (tVar 3) (tVar 5) (tVar 4)))))))
def r_check_rules (P : Program) (w : World) (K : PySem.W.Frag) (W : WX) : TS :=
  (tSeq (tAsg (tNDisp P w (tC (.int 0))) (gName 3))
  (tSeq (tFor (iSq K (tVar 1)) (gName 4) (sNPut P w (tVar 3) (tVar 4) (tC (.int 1))))
  (tFor (iRng1 (tCons (tCB (rLenA K) (tCons (tVar 0) tNil)) tNil)) (gName 5) (tSeq (tAsg (tOp (rIxA K) (tVar 0) (tVar 5)) (gUn K 5 (gCons (gName 4) (gCons (gName 6) (gCons (gName 7) (gCons (gName 8) (gCons (gName 9) gNil)))))))
  (tIfS (tOr (tTest (tOp (rInN P w (!·)) (tVar 4) (tVar 3))) (tOr (tTest (tOp (rInN P w (!·)) (tVar 6) (tVar 3))) (tOr (tTest (tOp (rEqP K) (tVar 4) (tVar 6))) (tNot (tB (tCallS (SpC (c_are_sides K)) (WE W) (tCons (tVar 8) (tCons (tVar 9) (tCons (tVar 2) tNil))))))))) (tRaiseX K "BadPlan" ["what", "number"] W (tCons (tC (.str "rule")) (tCons (tVar 5) tNil))) tNext)))))
def r_check_sights (K : PySem.W.Frag) (W : WX) : TS :=
  (tSeq (tAsg tDNewK (gName 5))
  (tSeq (tFor (iSq K (tVar 1)) (gUn K 5 (gCons (gName 6) (gCons (gName 7) (gCons (gName 8) (gCons (gName 9) (gCons (gName 10) gNil)))))) (sDPut (tVar 5) (tVar 6) (tTup (tCons (tVar 7) (tCons (tVar 8) tNil)))))
  (tFor (iRng1 (tCons (tCB (rLenA K) (tCons (tVar 0) tNil)) tNil)) (gName 11) (tSeq (tAsg (tOp (rIxA K) (tVar 0) (tVar 11)) (gUn K 5 (gCons (gName 12) (gCons (gName 7) (gCons (gName 8) (gCons (gName 13) (gCons (gName 14) gNil)))))))
  (tSeq (tAsg (tAndV (tOp (rInA K) (tVar 12) (tVar 4)) (tAndV (tChain rLeA rLeA (tC (.int 1)) (tVar 7) (tVar 2)) (tChain rLeA rLeA (tC (.int 0)) (tVar 8) (tVar 3)))) (gName 15))
  (tSeq (tIfS (tTest (tOp rIsA (tVar 13) (tC .non))) (tAsg (tAndV (tVar 15) (tOp (rEqP K) (tVar 14) (tC (.int 0)))) (gName 15)) (tAsg (tAndV (tVar 15) (tAndV (tOp (rInA K) (tVar 13) (tVar 5)) (tAndV (tOp (rEqP K) (tOp (rIxA K) (tOp (rIxA K) (tVar 5) (tVar 13)) (tC (.int 0))) (tVar 7)) (tOp rLtA (tOp (rIxA K) (tOp (rIxA K) (tVar 5) (tVar 13)) (tC (.int 1))) (tVar 8))))) (gName 15)))
  (tIfS (tNot (tB (tVar 15))) (tRaiseX K "BadPlan" ["what", "number"] W (tCons (tC (.str "sight")) (tCons (tVar 11) tNil))) tNext)))))))
def r_check_letters (K : PySem.W.Frag) (W : WX) : TS :=
  (tFor (iRng1 (tCons (tCB (rLenA K) (tCons (tVar 0) tNil)) tNil)) (gName 4) (tSeq (tAsg (tOp (rIxA K) (tVar 0) (tVar 4)) (gUn K 6 (gCons (gName 5) (gCons (gName 6) (gCons (gName 7) (gCons (gName 8) (gCons (gName 9) (gCons (gName 10) gNil))))))))
  (tSeq (tAsg (tAndV (tChain rLeA rLeA (tC (.int 1)) (tVar 5) (tVar 1)) (tAndV (tChain rLeA rLeA (tC (.int 1)) (tVar 7) (tVar 1)) (tOp (rNeP K) (tVar 5) (tVar 7)))) (gName 11))
  (tIfS (tOr (tNot (tB (tVar 11))) (tOr (tNot (tTest (tChain3 rLeA rLtA rLeA (tC (.int 0)) (tVar 6) (tVar 8) (tVar 2)))) (tNot (tB (tCallS (SpC (c_are_sides K)) (WE W) (tCons (tVar 9) (tCons (tVar 10) (tCons (tVar 3) tNil)))))))) (tRaiseX K "BadPlan" ["what", "number"] W (tCons (tC (.str "letter")) (tCons (tVar 4) tNil))) tNext))))
def r__law_purse (K : PySem.W.Frag) (W : WX) : TS :=
  (tSeq (tAsg (tIf (tTest (tOp rLtA (tVar 1) (tCB (rLenA K) (tCons (tVar 0) tNil)))) (tCB rIntI (tCons (tOp (rIxA K) (tVar 0) (tVar 1)) tNil)) (tOp rMulA (tC (.int 31)) (tCB (rSumA K) (tCons (tLc (iSq K (tSl (rSlW K) (tVar 0) tNoPart (tPart (tC (.int 4))))) (gName 4) tYes (tCB rIntI (tCons (tVar 4) tNil)) [4]) tNil)))) (gName 2))
  (tSeq (tAsg (tOp rAddA (tOp rMulA (tC (.int 2)) (tCB rAbsI (tCons (tVar 2) tNil))) (tIf (tTest (tOp rLtA (tVar 2) (tC (.int 0)))) (tC (.int 1)) (tC (.int 0)))) (gName 3))
  (tRet (tLst (tCons (tIf (tTest (tOp rGeA (tVar 3) (tOp rPowA (tC (.int 10)) (tC (.int 18))))) (tVar 3) (tC (.int 0))) (tCons (tOp rModA (tCB rIntI (tCons (tOp rAddA (tOp rAddA (tVar 3) (tOp rMulA (tVar 1) (tC (.int 104729)))) (tC (.int 12345))) tNil)) (tC (.int 2147483629))) (tCons (tVar 1) tNil)))))))
def r__law_draw (K : PySem.W.Frag) (W : WX) : TS :=
  (tSeq (tIfS (tTest (tOp rGtA (tOp (rIxA K) (tVar 0) (tC (.int 0))) (tC (.int 0)))) (tSeq (tAsg (tOp rModA (tCB rIntI (tCons (tOp (rIxA K) (tVar 0) (tC (.int 0))) tNil)) (tVar 1)) (gName 2))
  (tSeq (tAsg (tOp rDivA (tOp (rIxA K) (tVar 0) (tC (.int 0))) (tVar 1)) (gSub (tVar 0) (tC (.int 0)) rSetL))
  (tRet (tVar 2)))) tNext)
  (tSeq (tAugS (tVar 0) (tC (.int 2)) (tC (.int 1)) (rIxL K) (ipI fun i j => i + j) rSetL)
  (tSeq (tAsg (tOp rModA (tCB rIntI (tCons (tOp rAddA (tOp rMulA (tOp (rIxA K) (tVar 0) (tC (.int 1))) (tC (.int 48271))) (tOp rMulA (tOp (rIxA K) (tVar 0) (tC (.int 2))) (tC (.int 69621)))) tNil)) (tC (.int 2147483647))) (gSub (tVar 0) (tC (.int 1)) rSetL))
  (tRet (tOp rModA (tOp rDivA (tOp rModA (tCB rIntI (tCons (tOp rAddA (tOp rMulA (tOp (rIxA K) (tVar 0) (tC (.int 1))) (tC (.int 16807))) (tOp rMulA (tOp (rIxA K) (tVar 0) (tC (.int 2))) (tC (.int 7919)))) tNil)) (tC (.int 2147483629))) (tC (.int 8))) (tVar 1))))))
def r__law_word (K : PySem.W.Frag) (W : WX) : TS :=
  (tSeq (tAsg (tC (.str "abcdefghijklmnopqrstuvwxyz0123456789.")) (gName 2))
  (tSeq (tAsg (tOp (rIxA K) (tVar 2) (tCallS (SpC (c__law_draw K)) (WE W) (tCons (tVar 0) (tCons (tC (.int 26)) tNil)))) (gName 3))
  (tSeq (tFor (iRng1 (tCons (tIf (tTest (tOp (rEqP K) (tCallS (SpC (c__law_draw K)) (WE W) (tCons (tVar 0) (tCons (tC (.int 8)) tNil))) (tC (.int 0)))) (tC (.int 11)) (tCallS (SpC (c__law_draw K)) (WE W) (tCons (tVar 0) (tCons (tC (.int 4)) tNil)))) tNil)) (gName 4) (tAsg (tOp rAddA (tVar 3) (tOp (rIxA K) (tVar 2) (tCallS (SpC (c__law_draw K)) (WE W) (tCons (tVar 0) (tCons (tC (.int 37)) tNil))))) (gName 3)))
  (tSeq (tAsg (tVar 3) (gName 5))
  (tSeq (tFor (iRng1 (tCons (tC (.int 60)) tNil)) (gName 4) (tSeq (tIfS (tAnd (tTest (tOp (rNotInA K) (tVar 5) (tVar 1))) (tTest (tOp (rNotInA K) (tVar 5) (tLst (tCons (tC (.str "if")) (tCons (tC (.str "unless")) tNil)))))) (tRet (tVar 5)) tNext)
  (tAsg (tOp rAddA (tSl (rSlW K) (tVar 3) tNoPart (tPart (tC (.int 8)))) (tCB rStrI (tCons (tVar 4) tNil))) (gName 5))))
  (tRet (tVar 5)))))))
def r__law_words (K : PySem.W.Frag) (W : WX) : TS :=
  (tSeq (tAsg (tLst tNil) (gName 2))
  (tSeq (tFor (iRng1 (tCons (tVar 1) tNil)) (gName 3) (tDrop (tBM K "list" rAppend (tVar 2) (tCons (tCallS (SpC (c__law_word K)) (WE W) (tCons (tVar 0) (tCons (tVar 2) tNil))) tNil))))
  (tRet (tVar 2))))
def r__law_sides (K : PySem.W.Frag) (W : WX) : TS :=
  (tSeq (tAsg (tLst tNil) (gName 2))
  (tSeq (tAsg (tLst tNil) (gName 3))
  (tSeq (tFor (iSq K (tVar 1)) (gName 4) (tSeq (tAsg (tCallS (SpC (c__law_draw K)) (WE W) (tCons (tVar 0) (tCons (tC (.int 4)) tNil))) (gName 5))
  (tSeq (tIfS (tTest (tOp (rEqP K) (tVar 5) (tC (.int 0)))) (tDrop (tBM K "list" rAppend (tVar 2) (tCons (tVar 4) tNil))) tNext)
  (tIfS (tTest (tOp (rEqP K) (tVar 5) (tC (.int 1)))) (tDrop (tBM K "list" rAppend (tVar 3) (tCons (tVar 4) tNil))) tNext))))
  (tRet (tLst (tCons (tVar 2) (tCons (tVar 3) tNil)))))))
def r__law_letters (K : PySem.W.Frag) (W : WX) : TS :=
  (tSeq (tAsg (tLst tNil) (gName 5))
  (tSeq (tFor (iRng1 (tCons (tIf (tAnd (tTest (tOp rGtA (tVar 1) (tC (.int 1)))) (tTest (tOp rGtA (tVar 2) (tC (.int 0))))) (tVar 4) (tC (.int 0))) tNil)) (gName 6) (tSeq (tAsg (tOp rAddA (tC (.int 1)) (tCallS (SpC (c__law_draw K)) (WE W) (tCons (tVar 0) (tCons (tVar 1) tNil)))) (gName 7))
  (tSeq (tAsg (tOp rAddA (tOp rModA (tCB rIntI (tCons (tOp rAddA (tVar 7) (tCallS (SpC (c__law_draw K)) (WE W) (tCons (tVar 0) (tCons (tOp rSubA (tVar 1) (tC (.int 1))) tNil)))) tNil)) (tVar 1)) (tC (.int 1))) (gName 8))
  (tSeq (tAsg (tCallS (SpC (c__law_draw K)) (WE W) (tCons (tVar 0) (tCons (tVar 2) tNil))) (gName 9))
  (tSeq (tAsg (tOp rAddA (tOp rAddA (tVar 9) (tC (.int 1))) (tCallS (SpC (c__law_draw K)) (WE W) (tCons (tVar 0) (tCons (tCB (rMinA K) (tCons (tC (.int 3)) (tCons (tOp rSubA (tVar 2) (tVar 9)) tNil))) tNil)))) (gName 10))
  (tSeq (tAsg (tIf (tTest (tOp (rEqP K) (tCallS (SpC (c__law_draw K)) (WE W) (tCons (tVar 0) (tCons (tC (.int 3)) tNil))) (tC (.int 0)))) (tCallS (SpC (c__law_sides K)) (WE W) (tCons (tVar 0) (tCons (tVar 3) tNil))) (tLst (tCons (tLst tNil) (tCons (tLst tNil) tNil)))) (gName 11))
  (tDrop (tBM K "list" rAppend (tVar 5) (tCons (tTup (tCons (tVar 7) (tCons (tVar 9) (tCons (tVar 8) (tCons (tVar 10) (tCons (tOp (rIxA K) (tVar 11) (tC (.int 0))) (tCons (tOp (rIxA K) (tVar 11) (tC (.int 1))) tNil))))))) tNil)))))))))
  (tRet (tVar 5))))
def r__law_plan (K : PySem.W.Frag) (W : WX) : TS :=
  (tRet (tMkI (He.ga K "Plan") (SpC (c_Plan_init K)) W (tCons (tOp (rIxA K) (tVar 0) (tC (.int 0))) (tCons (tOp (rIxA K) (tVar 0) (tC (.int 1))) (tCons (tOp (rIxA K) (tVar 0) (tC (.int 2))) (tCons (tOp (rIxA K) (tVar 0) (tC (.int 3))) (tCons (tOp (rIxA K) (tVar 0) (tC (.int 4))) (tCons (tOp (rIxA K) (tVar 0) (tC (.int 5))) (tCons (tOp (rIxA K) (tVar 0) (tC (.int 6))) (tCons (tOp (rIxA K) (tVar 0) (tC (.int 7))) tNil))))))))))
def r__law_matches (C0 : Con) (K : PySem.W.Frag) (W : WX) : TS :=
  (tSeq (tIfS (tOr (tTest (tOp rIsA (tVar 1) (tC .non))) (tTest (tOp rIsA (tVar 0) (tC .non)))) (tRet (tAndV (tOp rIsA (tVar 1) (tC .non)) (tOp rIsA (tVar 0) (tC .non)))) tNext)
  (tSeq (tIfS (tOr (tB (tCB (rIsi K) (tCons (tVar 1) (tCons (tC (.ty "bool")) tNil)))) (tB (tCB (rIsi K) (tCons (tVar 0) (tCons (tC (.ty "bool")) tNil))))) (tRet (tAndV (tCB (rIsi K) (tCons (tVar 1) (tCons (tC (.ty "bool")) tNil))) (tAndV (tCB (rIsi K) (tCons (tVar 0) (tCons (tC (.ty "bool")) tNil))) (tOp (rEqP K) (tVar 0) (tVar 1))))) tNext)
  (tSeq (tIfS (tB (tCB (rIsi K) (tCons (tVar 1) (tCons (tC (.ty "int")) tNil)))) (tRet (tAndV (tCB (rIsi K) (tCons (tVar 0) (tCons (tC (.ty "int")) tNil))) (tOp (rEqP K) (tVar 0) (tVar 1)))) tNext)
  (tSeq (tIfS (tB (tCB (rIsi K) (tCons (tVar 1) (tCons (tC (.ty "str")) tNil)))) (tRet (tAndV (tCB (rIsi K) (tCons (tVar 0) (tCons (tC (.ty "str")) tNil))) (tOp (rEqP K) (tVar 0) (tVar 1)))) tNext)
  (tSeq (tIfS (tAnd (tB (tCB (rIsi K) (tCons (tVar 1) (tCons (tC (.ty "tuple")) tNil)))) (tNot (tB (tCB (rIsi K) (tCons (tVar 0) (tCons (tC (.ty "tuple")) tNil)))))) (tRet (tC (.bl false))) tNext)
  (tSeq (tIfS (tAnd (tB (tCB (rIsi K) (tCons (tVar 1) (tCons (tC (.ty "list")) tNil)))) (tNot (tB (tCB (rIsi K) (tCons (tVar 0) (tCons (tC (.ty "list")) tNil)))))) (tRet (tC (.bl false))) tNext)
  (tSeq (tIfS (tTest (tOp (rNeP K) (tCB (rLenA K) (tCons (tVar 0) tNil)) (tCB (rLenA K) (tCons (tVar 1) tNil)))) (tRet (tC (.bl false))) tNext)
  (tSeq (tFor (iRng1 (tCons (tCB (rLenA K) (tCons (tVar 1) tNil)) tNil)) (gName 2) (tIfS (tNot (tB (tCallS (SpC C0) (WE W) (tCons (tOp (rIxA K) (tVar 0) (tVar 2)) (tCons (tOp (rIxA K) (tVar 1) (tVar 2)) tNil))))) (tRet (tC (.bl false))) tNext))
  (tRet (tC (.bl true)))))))))))
def r__law_own_spread (K : PySem.W.Frag) (W : WX) : TS :=
  (tSeq (tAsg (tLc (iRng1 (tCons (tOp (rIxA K) (tVar 0) (tC (.int 0))) tNil)) (gName 3) tYes (tC .non) [3]) (gName 2))
  (tSeq (tFor (iSq K (tVar 1)) (gUn K 2 (gCons (gName 3) (gCons (gName 4) gNil))) (tIfS (tOr (tTest (tOp rIsA (tOp (rIxA K) (tVar 2) (tOp rSubA (tVar 3) (tC (.int 1)))) (tC .non))) (tTest (tOp rLtA (tVar 4) (tOp (rIxA K) (tVar 2) (tOp rSubA (tVar 3) (tC (.int 1))))))) (tAsg (tVar 4) (gSub (tVar 2) (tOp rSubA (tVar 3) (tC (.int 1))) rSetL)) tNext))
  (tSeq (tFor (iRng1 (tCons (tOp (rIxA K) (tVar 0) (tC (.int 0))) tNil)) (gName 5) (tFor (iSq K (tOp (rIxA K) (tVar 0) (tC (.int 7)))) (gName 6) (tSeq (tAsg (tOp (rIxA K) (tVar 2) (tOp rSubA (tOp (rIxA K) (tVar 6) (tC (.int 0))) (tC (.int 1)))) (gName 7))
  (tIfS (tAnd (tTest (tOp (rEqP K) (tOp (rIxA K) (tVar 6) (tC (.int 4))) (tLst tNil))) (tAnd (tTest (tOp rIsNotA (tVar 7) (tC .non))) (tTest (tOp rLeA (tVar 7) (tOp (rIxA K) (tVar 6) (tC (.int 1))))))) (tIfS (tOr (tTest (tOp rIsA (tOp (rIxA K) (tVar 2) (tOp rSubA (tOp (rIxA K) (tVar 6) (tC (.int 2))) (tC (.int 1)))) (tC .non))) (tTest (tOp rLtA (tOp (rIxA K) (tVar 6) (tC (.int 3))) (tOp (rIxA K) (tVar 2) (tOp rSubA (tOp (rIxA K) (tVar 6) (tC (.int 2))) (tC (.int 1))))))) (tAsg (tOp (rIxA K) (tVar 6) (tC (.int 3))) (gSub (tVar 2) (tOp rSubA (tOp (rIxA K) (tVar 6) (tC (.int 2))) (tC (.int 1))) rSetL)) tNext) tNext))))
  (tRet (tVar 2)))))
def r__law_own_takers (K : PySem.W.Frag) (W : WX) : TS :=
  (tSeq (tAsg (tLst tNil) (gName 2))
  (tSeq (tFor (iSq K (tOp (rIxA K) (tVar 0) (tC (.int 4)))) (gName 3) (tIfS (tAnd (tTest (tOp rIsNotA (tOp (rIxA K) (tVar 1) (tOp rSubA (tOp (rIxA K) (tVar 3) (tC (.int 1))) (tC (.int 1)))) (tC .non))) (tTest (tOp rLeA (tOp (rIxA K) (tVar 1) (tOp rSubA (tOp (rIxA K) (tVar 3) (tC (.int 1))) (tC (.int 1)))) (tOp (rIxA K) (tVar 3) (tC (.int 2)))))) (tDrop (tBM K "list" rAppend (tVar 2) (tCons (tOp (rIxA K) (tVar 3) (tC (.int 0))) tNil))) tNext))
  (tRet (tVar 2))))
def r__law_word_world (K : PySem.W.Frag) (W : WX) : TS :=
  (tSeq (tAsg (tOp rAddA (tC (.int 2)) (tCallS (SpC (c__law_draw K)) (WE W) (tCons (tVar 0) (tCons (tC (.int 2)) tNil)))) (gName 1))
  (tSeq (tAsg (tOp rAddA (tC (.int 1)) (tCallS (SpC (c__law_draw K)) (WE W) (tCons (tVar 0) (tCons (tC (.int 4)) tNil)))) (gName 2))
  (tSeq (tAsg (tCallS (SpC (c__law_words K)) (WE W) (tCons (tVar 0) (tCons (tOp rAddA (tC (.int 1)) (tCallS (SpC (c__law_draw K)) (WE W) (tCons (tVar 0) (tCons (tC (.int 2)) tNil)))) tNil))) (gName 3))
  (tSeq (tAsg (tLst tNil) (gName 4))
  (tSeq (tFor (iSq K (tCallS (SpC (c__law_words K)) (WE W) (tCons (tVar 0) (tCons (tOp rAddA (tC (.int 3)) (tCallS (SpC (c__law_draw K)) (WE W) (tCons (tVar 0) (tCons (tC (.int 3)) tNil)))) tNil)))) (gName 5) (tDrop (tBM K "list" rAppend (tVar 4) (tCons (tTup (tCons (tVar 5) (tCons (tOp rAddA (tC (.int 1)) (tCallS (SpC (c__law_draw K)) (WE W) (tCons (tVar 0) (tCons (tVar 1) tNil)))) (tCons (tCallS (SpC (c__law_draw K)) (WE W) (tCons (tVar 0) (tCons (tOp rAddA (tVar 2) (tC (.int 1))) tNil))) (tCons (tC (.int 0)) (tCons (tC (.int 1)) tNil)))))) tNil))))
  (tSeq (tAsg (tCallS (SpC (c__law_letters K)) (WE W) (tCons (tVar 0) (tCons (tVar 1) (tCons (tVar 2) (tCons (tVar 3) (tCons (tOp rAddA (tC (.int 1)) (tCallS (SpC (c__law_draw K)) (WE W) (tCons (tVar 0) (tCons (tC (.int 7)) tNil)))) tNil)))))) (gName 6))
  (tSeq (tAsg (tIf (tAnd (tTest (tOp (rEqP K) (tOp (rIxA K) (tOp (rIxA K) (tVar 4) (tC (.int 0))) (tC (.int 1))) (tC (.int 1)))) (tTest (tOp rLtA (tOp (rIxA K) (tOp (rIxA K) (tVar 4) (tC (.int 0))) (tC (.int 2))) (tVar 2)))) (tLst (tCons (tTup (tCons (tOp (rIxA K) (tVar 3) (tC (.int 0))) (tCons (tC (.int 1)) (tCons (tVar 2) (tCons (tOp (rIxA K) (tOp (rIxA K) (tVar 4) (tC (.int 0))) (tC (.int 0))) (tCons (tC (.int 1)) tNil)))))) tNil)) (tLst tNil)) (gName 7))
  (tRet (tLst (tCons (tVar 1) (tCons (tVar 2) (tCons (tVar 3) (tCons (tLst (tCons (tLst tNil) (tCons (tLst (tCons (tOp (rIxA K) (tVar 3) (tC (.int 0))) tNil)) tNil))) (tCons (tVar 4) (tCons (tLst tNil) (tCons (tVar 7) (tCons (tVar 6) tNil)))))))))))))))))
def r__law_open_letter (K : PySem.W.Frag) (W : WX) : TS :=
  (tSeq (tFor (iRng1 (tCons (tCB (rLenA K) (tCons (tOp (rIxA K) (tVar 0) (tC (.int 7))) tNil)) tNil)) (gName 2) (tSeq (tAsg (tOp (rIxA K) (tOp (rIxA K) (tVar 0) (tC (.int 7))) (tVar 2)) (gUn K 6 (gCons (gName 3) (gCons (gName 4) (gCons (gName 5) (gCons (gName 6) (gCons (gName 7) (gCons (gName 8) gNil))))))))
  (tSeq (tPar 9 10 (tCons (tOp (rIxA K) (tVar 1) (tOp rSubA (tVar 3) (tC (.int 1)))) (tCons (tOp (rIxA K) (tVar 1) (tOp rSubA (tVar 5) (tC (.int 1)))) tNil)))
  (tIfS (tAnd (tTest (tOp (rEqP K) (tVar 7) (tLst tNil))) (tAnd (tTest (tOp rIsNotA (tVar 9) (tC .non))) (tAnd (tTest (tOp rLeA (tVar 9) (tVar 4))) (tOr (tTest (tOp rIsA (tVar 10) (tC .non))) (tTest (tOp rGtA (tVar 10) (tVar 6))))))) (tRet (tVar 2)) tNext))))
  (tRet (tC .non)))
def r__law_every_list (K : PySem.W.Frag) (W : WX) : TS :=
  (tSeq (tAsg (tLst (tCons (tLst tNil) tNil)) (gName 1))
  (tSeq (tFor (iRng1 (tCons (tOp (rIxA K) (tVar 0) (tC (.int 0))) tNil)) (gName 2) (tSeq (tAsg (tLst tNil) (gName 3))
  (tSeq (tFor (iSq K (tVar 1)) (gName 4) (tAsg (tOp rAddA (tVar 3) (tLc (iSq K (tOp rAddA (tLst (tCons (tC .non) tNil)) (tLstRg (tRg1 (tOp rAddA (tOp (rIxA K) (tVar 0) (tC (.int 1))) (tC (.int 1))))))) (gName 5) tYes (tOp rAddA (tVar 4) (tLst (tCons (tVar 5) tNil))) [5])) (gName 3)))
  (tAsg (tVar 3) (gName 1)))))
  (tRet (tVar 1))))
def r__law_least_closed (K : PySem.W.Frag) (W : WX) : TS :=
  (tSeq (tAsg (tLc (iRng1 (tCons (tOp (rIxA K) (tVar 0) (tC (.int 0))) tNil)) (gName 6) tYes (tC (.int 0)) [6]) (gName 3))
  (tSeq (tFor (iSq K (tVar 1)) (gName 4) (tSeq (tAsg (tC (.bl true)) (gName 5))
  (tSeq (tFor (iSq K (tVar 2)) (gUn K 2 (gCons (gName 6) (gCons (gName 7) gNil))) (tIfS (tOr (tTest (tOp rIsA (tOp (rIxA K) (tVar 4) (tOp rSubA (tVar 6) (tC (.int 1)))) (tC .non))) (tTest (tOp rGtA (tOp (rIxA K) (tVar 4) (tOp rSubA (tVar 6) (tC (.int 1)))) (tVar 7)))) (tAsg (tC (.bl false)) (gName 5)) tNext))
  (tIfS (tB (tVar 5)) (tFor (iRng1 (tCons (tOp (rIxA K) (tVar 0) (tC (.int 0))) tNil)) (gName 8) (tIfS (tAnd (tTest (tOp rIsNotA (tOp (rIxA K) (tVar 3) (tVar 8)) (tC .non))) (tOr (tTest (tOp rIsA (tOp (rIxA K) (tVar 4) (tVar 8)) (tC .non))) (tTest (tOp rGtA (tOp (rIxA K) (tVar 4) (tVar 8)) (tOp (rIxA K) (tVar 3) (tVar 8)))))) (tAsg (tOp (rIxA K) (tVar 4) (tVar 8)) (gSub (tVar 3) (tVar 8) rSetL)) tNext)) tNext))))
  (tRet (tVar 3))))
def r__law_spread_told (K : PySem.W.Frag) (W : WX) : TS :=
  (tSeq (fun D σ H => (fun W => (tAsg (tCallS (SpC (c_spread_of K)) (WE W) (tCons (tVar 0) (tCons (tVar 1) tNil))) (gName 2))) (wCl K 3 W D ((Value.ref (He.ga K "TooMany"), fun a cls d => (tRet (tTup (tCons (tC (.str "many")) (tCons (tXf a cls d (He.ga K "TooMany") "what" (tVar 3)) tNil))))) :: ((Value.ref (He.ga K "BadMoment"), fun a cls d => (tRet (tTup (tCons (tC (.str "moment")) (tCons (tXf a cls d (He.ga K "BadMoment") "moment" (tVar 3)) tNil))))) :: []))) D σ H)
  (tRet (tTup (tCons (tC (.str "told")) (tCons (tVar 2) tNil)))))
def r__law_list_told (K : PySem.W.Frag) (W : WX) : TS :=
  (tSeq (fun D σ H => (fun W => (tAsg (tIf (tTest (tOp (rEqP K) (tVar 1) (tC (.int 0)))) (tCallS (SpC (c_judge_knowing K)) (WE W) (tCons (tVar 0) (tCons (tVar 2) tNil))) (tCallS (SpC (c_takers_of K)) (WE W) (tCons (tVar 0) (tCons (tVar 2) tNil)))) (gName 3))) (wCl K 4 W D ((Value.ref (He.ga K "BadMoment"), fun a cls d => (tRet (tTup (tCons (tC (.str "moment")) (tCons (tXf a cls d (He.ga K "BadMoment") "moment" (tVar 4)) tNil))))) :: [])) D σ H)
  (tRet (tTup (tCons (tC (.str "told")) (tCons (tVar 3) tNil)))))
def r__law_name_told (K : PySem.W.Frag) (W : WX) : TS :=
  (tSeq (fun D σ H => (fun W => (tAsg (tIf (tTest (tOp (rEqP K) (tVar 1) (tC (.int 0)))) (tCallS (SpC (c_cone_of K)) (WE W) (tCons (tVar 0) (tCons (tVar 2) tNil))) (tCallS (SpC (c_are_together K)) (WE W) (tCons (tVar 0) (tCons (tVar 2) (tCons (tVar 3) tNil))))) (gName 4))) (wCl K 5 W D ((Value.ref (He.ga K "BadNames"), fun a cls d => (tRet (tTup (tCons (tC (.str "names")) (tCons (tXf a cls d (He.ga K "BadNames") "words" (tVar 5)) tNil))))) :: [])) D σ H)
  (tRet (tTup (tCons (tC (.str "told")) (tCons (tVar 4) tNil)))))
def r__law_reach_told (K : PySem.W.Frag) (W : WX) : TS :=
  (tSeq (fun D σ H => (fun W => (tAsg (tCallS (SpC (c_reach_of K)) (WE W) (tCons (tVar 0) (tCons (tVar 1) (tCons (tVar 2) tNil)))) (gName 3))) (wCl K 4 W D ((Value.ref (He.ga K "BadMoment"), fun a cls d => (tRet (tTup (tCons (tC (.str "moment")) (tCons (tXf a cls d (He.ga K "BadMoment") "moment" (tVar 4)) tNil))))) :: [])) D σ H)
  (tRet (tTup (tCons (tC (.str "told")) (tCons (tVar 3) tNil)))))
def r__law_decisions_right (K : PySem.W.Frag) (W : WX) : TS :=
  (tSeq (tFor (iSq K (tOp (rIxA K) (tVar 1) (tC (.int 4)))) (gName 3) (tSeq (tAsg (tCallS (SpC (c__law_least_closed K)) (WE W) (tCons (tVar 1) (tCons (tVar 2) (tCons (tLst (tCons (tTup (tCons (tOp (rIxA K) (tVar 3) (tC (.int 1))) (tCons (tOp (rIxA K) (tVar 3) (tC (.int 2))) tNil))) tNil)) tNil)))) (gName 4))
  (tSeq (tFor (iRng1 (tCons (tC (.int 2)) tNil)) (gName 5) (tSeq (tAsg (tCallS (SpC (c_reach_of K)) (WE W) (tCons (tVar 0) (tCons (tOp (rIxA K) (tVar 3) (tC (.int 1))) (tCons (tOp (rIxA K) (tVar 3) (tC (.int 2))) tNil)))) (gName 6))
  (tSeq (tIfS (tNot (tB (tCallS (SpC (c__law_matches K)) (WE W) (tCons (tVar 6) (tCons (tVar 4) tNil))))) (tRet (tC (.bl false))) tNext)
  (tAsg (tC (.int 99)) (gSub (tVar 6) (tC (.int 0)) rSetL)))))
  (tSeq (tAsg (tCallS (SpC (c_cone_of K)) (WE W) (tCons (tVar 0) (tCons (tOp (rIxA K) (tVar 3) (tC (.int 0))) tNil))) (gName 7))
  (tSeq (tIfS (tOr (tTest (tOp (rNotInA K) (tOp (rIxA K) (tVar 3) (tC (.int 0))) (tVar 7))) (tNot (tB (tCallS (SpC (c__law_matches K)) (WE W) (tCons (tVar 7) (tCons (tCallS (SpC (c__law_own_takers K)) (WE W) (tCons (tVar 1) (tCons (tVar 4) tNil))) tNil)))))) (tRet (tC (.bl false))) tNext)
  (tSeq (tDrop (tBM K "list" rAppend (tVar 7) (tCons (tOp (rIxA K) (tVar 3) (tC (.int 0))) tNil)))
  (tFor (iSq K (tOp (rIxA K) (tVar 1) (tC (.int 4)))) (gName 8) (tIfS (tNot (tB (tCallS (SpC (c__law_matches K)) (WE W) (tCons (tCallS (SpC (c_are_together K)) (WE W) (tCons (tVar 0) (tCons (tOp (rIxA K) (tVar 3) (tC (.int 0))) (tCons (tOp (rIxA K) (tVar 8) (tC (.int 0))) tNil)))) (tCons (tOp (rEqP K) (tSl (rSlW K) (tVar 3) (tPart (tC (.int 1))) (tPart (tC (.int 3)))) (tSl (rSlW K) (tVar 8) (tPart (tC (.int 1))) (tPart (tC (.int 3))))) tNil))))) (tRet (tC (.bl false))) tNext))))))))
  (tRet (tC (.bl true))))
def r__law_errors_right (K : PySem.W.Frag) (W : WX) : TS :=
  (tSeq (tAsg (tLc (iSq K (tOp (rIxA K) (tVar 2) (tC (.int 4)))) (gName 16) tYes (tOp (rIxA K) (tVar 16) (tC (.int 0))) [16]) (gName 3))
  (tSeq (tAsg (tOp rAddA (tOp (rIxA K) (tVar 3) (tC (.int 0))) (tC (.str "zzzzzzzzzzzz"))) (gName 4))
  (tSeq (tAsg (tLst (tCons (tC (.int 1)) (tCons (tC (.int 0)) (tCons (tOp rAddA (tOp (rIxA K) (tVar 2) (tC (.int 0))) (tC (.int 1))) (tCons (tOp rSubA (tUn rUnA (tC (.int 1))) (tCallS (SpC (c__law_draw K)) (WE W) (tCons (tVar 0) (tCons (tOp rPowA (tC (.int 10)) (tC (.int 6))) tNil)))) tNil))))) (gName 5))
  (tSeq (tAsg (tLst (tCons (tC (.int 0)) (tCons (tUn rUnA (tC (.int 1))) (tCons (tOp rAddA (tOp (rIxA K) (tVar 2) (tC (.int 1))) (tC (.int 1))) (tCons (tOp rAddA (tOp rAddA (tOp (rIxA K) (tVar 2) (tC (.int 1))) (tC (.int 1))) (tCallS (SpC (c__law_draw K)) (WE W) (tCons (tVar 0) (tCons (tOp rPowA (tC (.int 10)) (tC (.int 6))) tNil)))) tNil))))) (gName 6))
  (tSeq (tAsg (tLc (iRng1 (tCons (tCallS (SpC (c__law_draw K)) (WE W) (tCons (tVar 0) (tCons (tC (.int 3)) tNil))) tNil)) (gName 17) tYes (tTup (tCons (tOp rAddA (tC (.int 1)) (tCallS (SpC (c__law_draw K)) (WE W0) (tCons (tVar 0) (tCons (tOp (rIxA K) (tVar 2) (tC (.int 0))) tNil)))) (tCons (tOp (rIxA K) (tVar 2) (tC (.int 1))) tNil))) [17]) (gName 7))
  (tSeq (tPar 8 9 (tCons (tOp (rIxA K) (tVar 5) (tCallS (SpC (c__law_draw K)) (WE W) (tCons (tVar 0) (tCons (tC (.int 4)) tNil)))) (tCons (tOp (rIxA K) (tVar 6) (tOp rAddA (tC (.int 1)) (tCallS (SpC (c__law_draw K)) (WE W) (tCons (tVar 0) (tCons (tC (.int 3)) tNil))))) tNil)))
  (tSeq (tAsg (tTup (tCons (tC (.str "moment")) (tCons (tIf (tTest (tOp (rEqP K) (tVar 8) (tC (.int 1)))) (tVar 9) (tVar 8)) tNil))) (gName 10))
  (tSeq (tIfS (tNot (tB (tCallS (SpC (c__law_matches K)) (WE W) (tCons (tCallS (SpC (c__law_spread_told K)) (WE W) (tCons (tVar 1) (tCons (tOp rAddA (tVar 7) (tLst (tCons (tTup (tCons (tVar 8) (tCons (tVar 9) tNil))) (tCons (tTup (tCons (tC (.int 0)) (tCons (tUn rUnA (tC (.int 7))) tNil))) tNil)))) tNil))) (tCons (tVar 10) tNil))))) (tRet (tC (.bl false))) tNext)
  (tSeq (tIfS (tNot (tB (tCallS (SpC (c__law_matches K)) (WE W) (tCons (tCallS (SpC (c__law_reach_told K)) (WE W) (tCons (tVar 1) (tCons (tVar 8) (tCons (tVar 9) tNil)))) (tCons (tVar 10) tNil))))) (tRet (tC (.bl false))) tNext)
  (tSeq (tAsg (tCallS (SpC (c__law_draw K)) (WE W) (tCons (tVar 0) (tCons (tOp (rIxA K) (tVar 2) (tC (.int 0))) tNil))) (gName 11))
  (tSeq (tAsg (tOp rAddA (tOp rAddA (tOp rMulA (tLst (tCons (tC .non) tNil)) (tVar 11)) (tLst (tCons (tVar 9) tNil))) (tOp rMulA (tLst (tCons (tUn rUnA (tC (.int 9))) tNil)) (tOp rSubA (tOp rSubA (tOp (rIxA K) (tVar 2) (tC (.int 0))) (tVar 11)) (tC (.int 1))))) (gName 12))
  (tSeq (tFor (iRng1 (tCons (tC (.int 2)) tNil)) (gName 13) (tIfS (tNot (tB (tCallS (SpC (c__law_matches K)) (WE W) (tCons (tCallS (SpC (c__law_list_told K)) (WE W) (tCons (tVar 1) (tCons (tVar 13) (tCons (tVar 12) tNil)))) (tCons (tTup (tCons (tC (.str "moment")) (tCons (tVar 9) tNil))) tNil))))) (tRet (tC (.bl false))) tNext))
  (tSeq (tIfS (tNot (tB (tCallS (SpC (c__law_matches K)) (WE W) (tCons (tCallS (SpC (c__law_name_told K)) (WE W) (tCons (tVar 1) (tCons (tC (.int 0)) (tCons (tVar 4) (tCons (tC (.str "")) tNil))))) (tCons (tTup (tCons (tC (.str "names")) (tCons (tLst (tCons (tVar 4) tNil)) tNil))) tNil))))) (tRet (tC (.bl false))) tNext)
  (tSeq (tFor (iSq K (tTup (tCons (tTup (tCons (tVar 4) (tCons (tOp (rIxA K) (tVar 3) (tC (.int 1))) tNil))) (tCons (tTup (tCons (tOp (rIxA K) (tVar 3) (tC (.int 0))) (tCons (tVar 4) tNil))) (tCons (tTup (tCons (tVar 4) (tCons (tVar 4) tNil))) tNil))))) (gUn K 2 (gCons (gName 14) (gCons (gName 15) gNil))) (tIfS (tNot (tB (tCallS (SpC (c__law_matches K)) (WE W) (tCons (tCallS (SpC (c__law_name_told K)) (WE W) (tCons (tVar 1) (tCons (tC (.int 1)) (tCons (tVar 14) (tCons (tVar 15) tNil))))) (tCons (tTup (tCons (tC (.str "names")) (tCons (tLst (tCons (tVar 14) (tCons (tVar 15) tNil))) tNil))) tNil))))) (tRet (tC (.bl false))) tNext))
  (tRet (tC (.bl true)))))))))))))))))
def r__law_great_right (K : PySem.W.Frag) (W : WX) : TS :=
  (tSeq (tAsg (tCallS (SpC (c__law_words K)) (WE W) (tCons (tVar 0) (tCons (tC (.int 1)) tNil))) (gName 1))
  (tSeq (tAsg (tCallS (SpC (c__law_letters K)) (WE W) (tCons (tVar 0) (tCons (tC (.int 8)) (tCons (tC (.int 24)) (tCons (tVar 1) (tCons (tOp rAddA (tC (.int 10)) (tCallS (SpC (c__law_draw K)) (WE W) (tCons (tVar 0) (tCons (tC (.int 31)) tNil)))) tNil)))))) (gName 2))
  (tSeq (tAsg (tLst (tCons (tC (.int 8)) (tCons (tC (.int 24)) (tCons (tVar 1) (tCons (tLst (tCons (tLst tNil) (tCons (tVar 1) tNil))) (tCons (tLst (tCons (tTup (tCons (tC (.str "a")) (tCons (tC (.int 1)) (tCons (tC (.int 0)) (tCons (tC (.int 0)) (tCons (tC (.int 1)) tNil)))))) tNil)) (tCons (tLst tNil) (tCons (tLst tNil) (tCons (tVar 2) tNil))))))))) (gName 3))
  (tSeq (tAsg (tCallS (SpC (c__law_plan K)) (WE W) (tCons (tVar 3) tNil)) (gName 4))
  (tSeq (tAsg (tLc (iRng1 (tCons (tOp rAddA (tC (.int 1)) (tCallS (SpC (c__law_draw K)) (WE W) (tCons (tVar 0) (tCons (tC (.int 24)) tNil)))) tNil)) (gName 8) tYes (tTup (tCons (tOp rAddA (tC (.int 1)) (tCallS (SpC (c__law_draw K)) (WE W0) (tCons (tVar 0) (tCons (tC (.int 8)) tNil)))) (tCons (tCallS (SpC (c__law_draw K)) (WE W0) (tCons (tVar 0) (tCons (tC (.int 25)) tNil))) tNil))) [8]) (gName 5))
  (tSeq (tAsg (tCallS (SpC (c__law_own_spread K)) (WE W) (tCons (tVar 3) (tCons (tVar 5) tNil))) (gName 6))
  (tSeq (tAsg (tCallS (SpC (c_spread_of K)) (WE W) (tCons (tVar 4) (tCons (tCB (rListA K) (tCons (tVar 5) tNil)) tNil))) (gName 7))
  (tSeq (tIfS (tOr (tNot (tB (tCallS (SpC (c__law_matches K)) (WE W) (tCons (tVar 7) (tCons (tVar 6) tNil))))) (tTest (tOp rIsNotA (tCallS (SpC (c_judge_knowing K)) (WE W) (tCons (tVar 4) (tCons (tVar 7) tNil))) (tC .non)))) (tRet (tC (.bl false))) tNext)
  (tSeq (tIfS (tNot (tB (tCallS (SpC (c__law_matches K)) (WE W) (tCons (tCallS (SpC (c__law_spread_told K)) (WE W) (tCons (tVar 4) (tCons (tSl (rSlW K) (tOp rMulA (tVar 5) (tC (.int 24))) tNoPart (tPart (tC (.int 24)))) tNil))) (tCons (tTup (tCons (tC (.str "told")) (tCons (tVar 6) tNil))) tNil))))) (tRet (tC (.bl false))) tNext)
  (tSeq (tIfS (tNot (tB (tCallS (SpC (c__law_matches K)) (WE W) (tCons (tCallS (SpC (c__law_spread_told K)) (WE W) (tCons (tVar 4) (tCons (tSl (rSlW K) (tOp rMulA (tVar 5) (tC (.int 25))) tNoPart (tPart (tC (.int 25)))) tNil))) (tCons (tTup (tCons (tC (.str "many")) (tCons (tC (.str "starts")) tNil))) tNil))))) (tRet (tC (.bl false))) tNext)
  (tRet (tCallS (SpC (c__law_matches K)) (WE W) (tCons (tCallS (SpC (c__law_spread_told K)) (WE W) (tCons (tVar 4) (tCons (tOp rMulA (tLst (tCons (tTup (tCons (tC (.int 0)) (tCons (tUn rUnA (tC (.int 1))) tNil))) tNil)) (tC (.int 25))) tNil))) (tCons (tTup (tCons (tC (.str "many")) (tCons (tC (.str "starts")) tNil))) tNil))))))))))))))
def r_law (K : PySem.W.Frag) (W : WX) : TS :=
  (tSeq (tAsg (tCallS (sp__law_purse K) (WE W) (tCons (tVar 0) (tCons (tC (.int 0)) tNil))) (gName 1))
  (tSeq (tAsg (tCallS (SpC (c__law_word_world K)) (WE W) (tCons (tVar 1) tNil)) (gName 2))
  (tSeq (tAsg (tCallS (SpC (c__law_plan K)) (WE W) (tCons (tVar 2) tNil)) (gName 3))
  (tSeq (tAsg (tLst tNil) (gName 4))
  (tSeq (tFor (iSq K (tCallS (SpC (c__law_every_list K)) (WE W) (tCons (tVar 2) tNil))) (gName 5) (tSeq (tAsg (tCallS (SpC (c__law_open_letter K)) (WE W) (tCons (tVar 2) (tCons (tVar 5) tNil))) (gName 6))
  (tSeq (tAsg (tCB (rListA K) (tCons (tVar 5) tNil)) (gName 7))
  (tSeq (tIfS (tNot (tB (tCallS (SpC (c__law_matches K)) (WE W) (tCons (tCallS (SpC (c_judge_knowing K)) (WE W) (tCons (tVar 3) (tCons (tVar 7) tNil))) (tCons (tVar 6) tNil))))) (tRet (tC (.bl false))) tNext)
  (tSeq (tIfS (tTest (tOp rIsA (tVar 6) (tC .non))) (tDrop (tBM K "list" rAppend (tVar 4) (tCons (tVar 5) tNil))) tNext)
  (tSeq (tIfS (tOr (tTest (tOp rIsA (tVar 6) (tC .non))) (tTest (tOp (rEqP K) (tCallS (SpC (c__law_draw K)) (WE W) (tCons (tVar 1) (tCons (tC (.int 4)) tNil))) (tC (.int 0))))) (tIfS (tNot (tB (tCallS (SpC (c__law_matches K)) (WE W) (tCons (tCallS (SpC (c_takers_of K)) (WE W) (tCons (tVar 3) (tCons (tCB (rListA K) (tCons (tVar 5) tNil)) tNil))) (tCons (tCallS (SpC (c__law_own_takers K)) (WE W) (tCons (tVar 2) (tCons (tVar 5) tNil))) tNil))))) (tRet (tC (.bl false))) tNext) tNext)
  (tIfS (tTest (tOp (rNeP K) (tVar 7) (tVar 5))) (tRet (tC (.bl false))) tNext)))))))
  (tSeq (tFor (iRng1 (tCons (tC (.int 4)) tNil)) (gName 8) (tSeq (tAsg (tLc (iRng1 (tCons (tVar 8) tNil)) (gName 11) tYes (tTup (tCons (tOp rAddA (tC (.int 1)) (tCallS (SpC (c__law_draw K)) (WE W0) (tCons (tVar 1) (tCons (tOp (rIxA K) (tVar 2) (tC (.int 0))) tNil)))) (tCons (tCallS (SpC (c__law_draw K)) (WE W0) (tCons (tVar 1) (tCons (tOp rAddA (tOp (rIxA K) (tVar 2) (tC (.int 1))) (tC (.int 1))) tNil))) tNil))) [11]) (gName 9))
  (tSeq (tAsg (tIf (tTest (tOp (rEqP K) (tVar 8) (tC (.int 2)))) (tLc (iSq K (tVar 9)) (gName 12) tYes (tLst (tCons (tOp (rIxA K) (tVar 12) (tC (.int 0))) (tCons (tOp (rIxA K) (tVar 12) (tC (.int 1))) tNil))) [12]) (tCB (rListA K) (tCons (tVar 9) tNil))) (gName 7))
  (tSeq (tAsg (tCallS (SpC (c_spread_of K)) (WE W) (tCons (tVar 3) (tCons (tVar 7) tNil))) (gName 10))
  (tIfS (tOr (tNot (tB (tCallS (SpC (c__law_matches K)) (WE W) (tCons (tVar 10) (tCons (tCallS (SpC (c__law_least_closed K)) (WE W) (tCons (tVar 2) (tCons (tVar 4) (tCons (tVar 9) tNil)))) tNil))))) (tTest (tOp (rNeP K) (tCB (rLenA K) (tCons (tVar 7) tNil)) (tVar 8)))) (tRet (tC (.bl false))) tNext)))))
  (tSeq (tIfS (tOr (tNot (tB (tCallS (SpC (c__law_decisions_right K)) (WE W) (tCons (tVar 3) (tCons (tVar 2) (tCons (tVar 4) tNil)))))) (tNot (tB (tCallS (SpC (c__law_errors_right K)) (WE W) (tCons (tVar 1) (tCons (tVar 3) (tCons (tVar 2) tNil))))))) (tRet (tC (.bl false))) tNext)
  (tRet (tCallS (SpC (c__law_great_right K)) (WE W) (tCons (tVar 1) tNil))))))))))
def r_Plan_init (K : PySem.W.Frag) (W : WX) : TS :=
  (tSeq (tAsg (tLst (tCons (tCB (rLenA K) (tCons (tVar 3) tNil)) (tCons (tCB (rLenA K) (tCons (tVar 4) tNil)) (tCons (tCB (rLenA K) (tCons (tVar 5) tNil)) (tCons (tCB (rLenA K) (tCons (tVar 6) tNil)) (tCons (tCB (rLenA K) (tCons (tVar 7) tNil)) (tCons (tCB (rLenA K) (tCons (tVar 8) tNil)) tNil))))))) (gName 9))
  (tSeq (tDrop (tCallS (SpC (c_check_bounds K)) (WE W) (tCons (tVar 1) (tCons (tVar 2) (tCons (tVar 9) (tCons (tVar 5) (tCons (tVar 6) (tCons (tVar 7) tNil))))))))
  (tSeq (sFld K (tVar 0) (tVar 1) "helper_count")
  (tSeq (sFld K (tVar 0) (tVar 2) "last_moment")
  (tSeq (sFld K (tVar 0) (tCB (rListA K) (tCons (tVar 3) tNil)) "mishap_words")
  (tSeq (sFld K (tVar 0) (tLc (iSq K (tVar 4)) (gName 10) tYes (tCB (rListA K) (tCons (tVar 10) tNil)) [10]) "course_rows")
  (tSeq (sFld K (tVar 0) (tLc (iSq K (tVar 5)) (gName 10) tYes (tCB (rTupA K) (tCons (tVar 10) tNil)) [10]) "decision_rows")
  (tSeq (sFld K (tVar 0) (tLc (iSq K (tVar 6)) (gName 10) tYes (tTup (tCons (tOp (rIxA K) (tVar 10) (tC (.int 0))) (tCons (tOp (rIxA K) (tVar 10) (tC (.int 1))) (tCons (tOp (rIxA K) (tVar 10) (tC (.int 2))) (tCons (tCB (rListA K) (tCons (tOp (rIxA K) (tVar 10) (tC (.int 3))) tNil)) (tCons (tCB (rListA K) (tCons (tOp (rIxA K) (tVar 10) (tC (.int 4))) tNil)) tNil)))))) [10]) "rule_rows")
  (tSeq (sFld K (tVar 0) (tLc (iSq K (tVar 7)) (gName 10) tYes (tCB (rTupA K) (tCons (tVar 10) tNil)) [10]) "sight_rows")
  (tSeq (sFld K (tVar 0) (tLc (iSq K (tVar 8)) (gName 10) tYes (tTup (tCons (tOp (rIxA K) (tVar 10) (tC (.int 0))) (tCons (tOp (rIxA K) (tVar 10) (tC (.int 1))) (tCons (tOp (rIxA K) (tVar 10) (tC (.int 2))) (tCons (tOp (rIxA K) (tVar 10) (tC (.int 3))) (tCons (tCB (rListA K) (tCons (tOp (rIxA K) (tVar 10) (tC (.int 4))) tNil)) (tCons (tCB (rListA K) (tCons (tOp (rIxA K) (tVar 10) (tC (.int 5))) tNil)) tNil))))))) [10]) "letter_rows")
  (tSeq (tDrop (tMeI (He.ga K "Plan") "check_rows" (SpC (c_Plan_check_rows K)) W (tVar 0) tNil))
  (tSeq (sFld K (tVar 0) tDNewK "decision_places")
  (tFor (iSq K (tFld K (tVar 0) "decision_rows")) (gName 10) (sDPut (tFld K (tVar 0) "decision_places") (tOp (rIxA K) (tVar 10) (tC (.int 0))) (tCB (rLenA K) (tCons (tFld K (tVar 0) "decision_places") tNil))))))))))))))))
def r_Plan_check_rows (K : PySem.W.Frag) (W : WX) : TS :=
  (tSeq (tIfS (tTest (tOp rLtA (tFld K (tVar 0) "helper_count") (tC (.int 1)))) (tRaiseX K "BadPlan" ["what", "number"] W (tCons (tC (.str "helpers")) (tCons (tC (.int 0)) tNil))) tNext)
  (tSeq (tIfS (tTest (tOp rLtA (tFld K (tVar 0) "last_moment") (tC (.int 0)))) (tRaiseX K "BadPlan" ["what", "number"] W (tCons (tC (.str "last")) (tCons (tC (.int 0)) tNil))) tNext)
  (tSeq (tDrop (tCallS (SpC (c_check_mishaps K)) (WE W) (tCons (tFld K (tVar 0) "mishap_words") tNil)))
  (tSeq (tDrop (tCallS (SpC (c_check_courses K)) (WE W) (tCons (tFld K (tVar 0) "course_rows") (tCons (tFld K (tVar 0) "mishap_words") tNil))))
  (tSeq (tDrop (tCallS (SpC (c_check_decisions K)) (WE W) (tCons (tFld K (tVar 0) "decision_rows") (tCons (tFld K (tVar 0) "helper_count") (tCons (tFld K (tVar 0) "last_moment") tNil)))))
  (tSeq (tDrop (tCallS (SpC (c_check_rules K)) (WE W) (tCons (tFld K (tVar 0) "rule_rows") (tCons (tLc (iSq K (tFld K (tVar 0) "decision_rows")) (gName 1) tYes (tOp (rIxA K) (tVar 1) (tC (.int 0))) [1]) (tCons (tFld K (tVar 0) "mishap_words") tNil)))))
  (tSeq (tDrop (tCallS (SpC (c_check_sights K)) (WE W) (tCons (tFld K (tVar 0) "sight_rows") (tCons (tFld K (tVar 0) "decision_rows") (tCons (tFld K (tVar 0) "helper_count") (tCons (tFld K (tVar 0) "last_moment") (tCons (tFld K (tVar 0) "mishap_words") tNil)))))))
  (tDrop (tCallS (SpC (c_check_letters K)) (WE W) (tCons (tFld K (tVar 0) "letter_rows") (tCons (tFld K (tVar 0) "helper_count") (tCons (tFld K (tVar 0) "last_moment") (tCons (tFld K (tVar 0) "mishap_words") tNil)))))))))))))
def r_Plan_helpers (K : PySem.W.Frag) (W : WX) : TS :=
  (tRet (tFld K (tVar 0) "helper_count"))
def r_Plan_last (K : PySem.W.Frag) (W : WX) : TS :=
  (tRet (tFld K (tVar 0) "last_moment"))
def r_Plan_decisions (K : PySem.W.Frag) (W : WX) : TS :=
  (tRet (tCB (rListA K) (tCons (tFld K (tVar 0) "decision_rows") tNil)))
def r_Plan_letters (K : PySem.W.Frag) (W : WX) : TS :=
  (tRet (tLc (iSq K (tFld K (tVar 0) "letter_rows")) (gName 1) tYes (tTup (tCons (tOp (rIxA K) (tVar 1) (tC (.int 0))) (tCons (tOp (rIxA K) (tVar 1) (tC (.int 1))) (tCons (tOp (rIxA K) (tVar 1) (tC (.int 2))) (tCons (tOp (rIxA K) (tVar 1) (tC (.int 3))) (tCons (tCB (rListA K) (tCons (tOp (rIxA K) (tVar 1) (tC (.int 4))) tNil)) (tCons (tCB (rListA K) (tCons (tOp (rIxA K) (tVar 1) (tC (.int 5))) tNil)) tNil))))))) [1]))
def r_Plan_names (K : PySem.W.Frag) (W : WX) : TS :=
  (tRet (tLc (iSq K (tFld K (tVar 0) "decision_rows")) (gName 1) tYes (tOp (rIxA K) (tVar 1) (tC (.int 0))) [1]))
def r_Plan_place (K : PySem.W.Frag) (W : WX) : TS :=
  (tSeq (tIfS (tTest (tOp (rNotInA K) (tVar 1) (tFld K (tVar 0) "decision_places"))) (tRaiseX K "BadNames" ["words"] W (tCons (tLst (tCons (tVar 1) tNil)) tNil)) tNext)
  (tRet (tOp (rIxA K) (tFld K (tVar 0) "decision_places") (tVar 1))))
def r_Plan_holds (K : PySem.W.Frag) (W : WX) : TS :=
  (tSeq (tAsg (tOp (rIxA K) (tFld K (tVar 0) "course_rows") (tVar 1)) (gName 4))
  (tSeq (tFor (iSq K (tVar 2)) (gName 5) (tIfS (tTest (tOp (rNotInA K) (tVar 5) (tVar 4))) (tRet (tC (.bl false))) tNext))
  (tSeq (tFor (iSq K (tVar 3)) (gName 5) (tIfS (tTest (tOp (rInA K) (tVar 5) (tVar 4))) (tRet (tC (.bl false))) tNext))
  (tRet (tC (.bl true))))))
def r_Plan_carried (K : PySem.W.Frag) (W : WX) : TS :=
  (tSeq (tIfS (tNot (tTest (tChain rLeA rLtA (tC (.int 0)) (tVar 1) (tCB (rLenA K) (tCons (tFld K (tVar 0) "course_rows") tNil))))) (tRaiseX K "BadCourse" ["number"] W (tCons (tVar 1) tNil)) tNext)
  (tSeq (tAsg (tLst tNil) (gName 2))
  (tSeq (tFor (iRng1 (tCons (tCB (rLenA K) (tCons (tFld K (tVar 0) "letter_rows") tNil)) tNil)) (gName 3) (tIfS (tB (tMeI (He.ga K "Plan") "holds" (SpC (c_Plan_holds K)) W (tVar 0) (tCons (tVar 1) (tCons (tOp (rIxA K) (tOp (rIxA K) (tFld K (tVar 0) "letter_rows") (tVar 3)) (tC (.int 4))) (tCons (tOp (rIxA K) (tOp (rIxA K) (tFld K (tVar 0) "letter_rows") (tVar 3)) (tC (.int 5))) tNil))))) (tDrop (tBM K "list" rAppend (tVar 2) (tCons (tVar 3) tNil))) tNext))
  (tRet (tVar 2)))))
end K07
end AB

set_option Elab.async false
set_option linter.all false
set_option maxRecDepth 100000
set_option maxHeartbeats 4000000
set_option autoImplicit false
namespace AB
open PySem L2 PySem.Spec PyProof.Rows He
namespace K07
local macro_rules | `(tactic| walk_at "e") => `(tactic| repeat' (first
  | (with_reducible refine s_seq ?_) | (with_reducible refine s_if ?_) | (with_reducible refine s_drop ?_) | (with_reducible refine s_ret ?_) | (with_reducible refine s_next ?_) | (with_reducible refine s_asg ?_)
  | (with_reducible refine g_name ?_)
  | (with_reducible refine t_test ?_) | (with_reducible refine t_B ?_) | (with_reducible refine t_or ?_) | (with_reducible refine t_and ?_) | (with_reducible refine t_not ?_)
  | ((with_reducible apply e_var); rfl) | (with_reducible refine e_int ?_) | (with_reducible refine e_str ?_) | (with_reducible refine e_bl ?_) | (with_reducible refine e_non ?_)
  | (with_reducible refine e_raw ?_) | (with_reducible refine ite_tt ?_) | (with_reducible refine ite_ff ?_) | (with_reducible refine ite_ntt ?_) | (with_reducible refine ite_nff ?_) | (with_reducible refine n_isiS ?_) | (with_reducible refine n_isiL ?_) | (with_reducible refine n_isiT ?_)
  | (with_reducible refine e_op ?_) | (with_reducible refine e_un ?_) | (with_reducible refine e_cb ?_) | (with_reducible refine e_callA ?_) | (with_reducible refine e_andV ?_) | (with_reducible refine e_if ?_)
  | (with_reducible refine a_cons ?_) | (with_reducible refine a_nil ?_)
  | (with_reducible refine o_gt ?_) | (with_reducible refine o_lt ?_) | (with_reducible refine o_le ?_) | (with_reducible refine o_ge ?_) | (with_reducible refine o_add ?_) | (with_reducible refine o_sub ?_) | (with_reducible refine o_neg ?_)
  | (with_reducible refine e_tup ?_) | (with_reducible refine e_lst ?_) | (with_reducible refine exd0 ?_) | (with_reducible refine exd1 ?_) | (with_reducible refine exd2 ?_) | (with_reducible refine exd3 ?_) | (with_reducible refine exd4 ?_) | (with_reducible refine exd5 ?_) | (with_reducible refine exd6 ?_)
  | (with_reducible refine o_isNotI ?_) | (with_reducible refine o_isNotN ?_) | (with_reducible refine o_isNotS ?_) | (with_reducible refine o_isI ?_) | (with_reducible refine o_isN ?_) | (with_reducible refine o_isS ?_) | (with_reducible refine o_isT ?_)
  | (with_reducible refine t_yes ?_) | (with_reducible refine gw_name (by decide) ?_)
  | (with_reducible refine s_par ?_) | (with_reducible refine ex2 ?_) | (with_reducible refine o_eqI ?_) | (with_reducible refine o_neI ?_) | (with_reducible refine o_ixL (by assumption) (by assumption) ?_)
  | (with_reducible refine e_sl ?_) | (with_reducible refine l_none ?_) | (with_reducible refine l_some ?_)
  | (with_reducible refine n_list (by assumption) ?_)
  | (with_reducible refine s_par3 ?_) | (with_reducible refine o_isB ?_)
  | (with_reducible refine ite_dec (fun h => absurd h (by decide)) (fun _ => ?_)) | (with_reducible refine ite_dec (fun _ => ?_) (fun h => absurd (by decide) h))
  | (with_reducible refine Exists.intro _ (And.intro rfl ?_))))
local macro_rules | `(tactic| walk_at "st") => `(tactic| simp only [List.map_cons, List.map_nil, List.length_cons, List.length_nil, Nat.reduceAdd, Nat.reduceSub, List.replicate, List.cons_append, List.nil_append])
variable {K : PySem.W.Frag} {B : Base} {W : WX} {ss : List Sl} {o : O} {Rt : Sl → O → Prop} {Xt : Addr → List (Str × D) → O → Prop}
theorem w_check_most (c : c_check_most K ss o Rt Xt) (hX : ∀ ρ o C' fs, Xt C' fs o → AX B W ρ o C' fs) : Wf (r_check_most K W) 3 B ss o Rt := by
  obtain ⟨w, m, n, rfl, h1, h2⟩ := c
  unfold Wf r_check_most
  walk_at "st"
  walk_at "e"
  refine ite_dec (fun h => ?_) fun h => ?_
  · refine s_raiseX ?_
    walk_at "e"
    exact ⟨[.str w], rfl, rfl, Nat.le_of_ble_eq_true rfl, hX _ _ _ _ (h1 h)⟩
  · walk_at "e"
    exact h2 h
theorem w_is_word (c : c_is_word K ss o Rt Xt) : Wf (r_is_word K W) 2 B ss o Rt := by
  obtain ⟨w, rfl, hl, h⟩ := c
  unfold Wf r_is_word
  walk_at "st"
  walk_at "e"
  refine n_lenS hl ?_
  walk_at "e"
  have lw : w.cps.toList.length = w.length := by simp [Str.length]
  refine ite_dec (fun h1 => ?_) fun h1 => ?_
  · walk_at "e"
    have : isW w = false := by unfold isW; rw [decide_eq_false (by omega)]; rfl
    rw [this] at h
    exact h
  walk_at "e"
  refine n_lenS hl ?_
  walk_at "e"
  refine ite_dec (fun h2 => ?_) fun h2 => ?_
  · walk_at "e"
    have : isW w = false := by unfold isW; rw [decide_eq_false (by omega)]; rfl
    rw [this] at h
    exact h
  walk_at "e"
  obtain ⟨c, cs, hc⟩ : ∃ c cs, w.cps.toList = c :: cs := by
    cases e : w.cps.toList with
    | nil => rw [e] at lw; simp at lw; omega
    | cons c cs => exact ⟨c, cs, rfl⟩
  refine o_ixS hl (c := c) (by rw [hc]; simp [atI, ixN]) ?_
  walk_at "e"
  refine o_notInC ?_
  rw [sgnF]
  have hw : isW w = (inF c && (!(decide (w = ("if" : Str)) || decide (w = ("unless" : Str))) && w.cps.toList.all inR)) := by
    unfold isW
    rw [decide_eq_true (by omega), hc]
    rfl
  rw [hw] at h
  walk_at "e"
  cases hf : inF c with
  | false =>
    rw [hf] at h
    walk_at "e"
    exact h
  | true =>
  rw [hf] at h
  walk_at "e"
  refine o_inL rfl rfl (by simp [D.py, PyData.depth]) ?_
  rw [notKw]
  walk_at "e"
  cases hk : (decide (w = ("if" : Str)) || decide (w = ("unless" : Str))) with
  | true =>
    rw [hk] at h
    walk_at "e"
    exact h
  | false =>
  rw [hk] at h
  walk_at "e"
  refine s_forS ?_
  walk_at "e"
  refine ⟨fun i ρ' o' => o' = o ∧ (∃ u, ρ' = [some (.da (.str w)), u]) ∧ (w.cps.toList.take i).all inR = true, ⟨rfl, ⟨_, rfl⟩, rfl⟩, ?_, ?_⟩
  · rintro i d ρ' o' hd ⟨rfl, ⟨u, rfl⟩, hf⟩
    walk_at "e"
    refine o_notInC ?_
    rw [sgnR]
    walk_at "e"
    cases hi : inR d with
    | false =>
      walk_at "e"
      have : w.cps.toList.all inR = false := List.all_eq_false.mpr ⟨d, List.mem_of_getElem? hd, by rw [hi]; decide⟩
      rw [this] at h
      exact h
    | true =>
      walk_at "e"
      refine ⟨rfl, ⟨_, rfl⟩, ?_⟩
      rw [List.take_add_one, hd, List.all_append, hf]
      simp [hi]
  · rintro ρ' o' ⟨rfl, ⟨u, rfl⟩, hf⟩
    rw [← lw, List.take_length] at hf
    rw [hf] at h
    walk_at "e"
    exact h
theorem w__law_draw (c : c__law_draw K ss o Rt Xt) : Wf (r__law_draw K W) 3 B ss o Rt := by
  obtain ⟨j, n, rfl, n0, n1, pu, h⟩ := c
  have pu' := pu
  obtain ⟨p0, p1, p2, hp⟩ := pu
  unfold Wf r__law_draw
  walk_at "st"
  have hL : LL o (.ow j) [.da (.int p0), .da (.int p1), .da (.int p2)] := hp
  have i0 : atI [Sl.da (.int p0), Sl.da (.int p1), Sl.da (.int p2)] 0 = some (.da (.int p0)) := rfl
  have cd : CDivW p0 n := ⟨n0, log62 n0 n1⟩
  walk_at "e"
  refine ite_dec (fun h1 => ?_) fun h1 => ?_
  · walk_at "e"
    refine n_int ?_
    walk_at "e"
    refine o_mod n0 ?_
    walk_at "e"
    refine o_div cd ?_
    refine g_set ?_
    walk_at "e"
    refine ⟨j, _, 0, 0, rfl, rfl, hp, rfl, ?_⟩
    walk_at "e"
    exact h _ _ (Int.emod_nonneg _ (by omega)) (Int.emod_lt_of_pos _ n0) (by rw [List.length_set]) (Fj.one pu')
  · walk_at "e"
    refine s_augS ?_
    walk_at "e"
    refine ⟨j, _, 2, 2, _, rfl, rfl, hp, rfl, rfl, ?_⟩
    walk_at "e"
    refine ip_I ⟨_, hp, rfl, ?_⟩
    have lt := pu'.lt
    have hp2 : LL (o.set j (.lst [.da (.int p0), .da (.int p1), .da (.int (p2 + 1))])) (.ow j) [.da (.int p0), .da (.int p1), .da (.int (p2 + 1))] := List.getElem?_set_self lt
    have j1 : atI [Sl.da (.int p0), Sl.da (.int p1), Sl.da (.int (p2 + 1))] 1 = some (.da (.int p1)) := rfl
    have j2 : atI [Sl.da (.int p0), Sl.da (.int p1), Sl.da (.int (p2 + 1))] 2 = some (.da (.int (p2 + 1))) := rfl
    show WS B _ _ _ (o.set j (.lst [.da (.int p0), .da (.int p1), .da (.int (p2 + 1))]))
    walk_at "e"
    refine o_mul (.inr ⟨by decide, by decide⟩) ?_
    walk_at "e"
    refine o_mul (.inr ⟨by decide, by decide⟩) ?_
    walk_at "e"
    refine n_int ?_
    walk_at "e"
    refine o_mod (by decide) ?_
    refine g_set ?_
    walk_at "e"
    refine ⟨j, _, 1, 1, rfl, rfl, hp2, rfl, ?_⟩
    rw [List.set_set]
    generalize hq : ((p1 * 48271 + (p2 + 1) * 69621) % 2147483647 : Int) = q1
    have hp3 : LL (o.set j (.lst [.da (.int p0), .da (.int q1), .da (.int (p2 + 1))])) (.ow j) [.da (.int p0), .da (.int q1), .da (.int (p2 + 1))] := List.getElem?_set_self lt
    have k1 : atI [Sl.da (.int p0), Sl.da (.int q1), Sl.da (.int (p2 + 1))] 1 = some (.da (.int q1)) := rfl
    have k2 : atI [Sl.da (.int p0), Sl.da (.int q1), Sl.da (.int (p2 + 1))] 2 = some (.da (.int (p2 + 1))) := rfl
    show WS B _ _ _ (o.set j (.lst [.da (.int p0), .da (.int q1), .da (.int (p2 + 1))]))
    walk_at "e"
    refine o_mul (.inr ⟨by decide, by decide⟩) ?_
    walk_at "e"
    refine o_mul (.inr ⟨by decide, by decide⟩) ?_
    walk_at "e"
    refine n_int ?_
    walk_at "e"
    refine o_mod (by decide) ?_
    walk_at "e"
    refine o_div ⟨by decide, by decide +kernel⟩ ?_
    walk_at "e"
    refine o_mod n0 ?_
    exact h _ _ (Int.emod_nonneg _ (by omega)) (Int.emod_lt_of_pos _ n0) (by rw [List.length_set]) (Fj.one pu')
end K07
end AB

set_option Elab.async false
set_option linter.all false
set_option maxRecDepth 100000
set_option maxHeartbeats 4000000
set_option autoImplicit false
namespace AB
open PySem L2 PySem.Spec PyProof.Rows He
namespace K07
local macro_rules | `(tactic| walk_at "e") => `(tactic| repeat' (first
  | (with_reducible refine s_seq ?_) | (with_reducible refine s_if ?_) | (with_reducible refine s_drop ?_) | (with_reducible refine s_ret ?_) | (with_reducible refine s_next ?_) | (with_reducible refine s_asg ?_)
  | (with_reducible refine g_name ?_)
  | (with_reducible refine t_test ?_) | (with_reducible refine t_B ?_) | (with_reducible refine t_or ?_) | (with_reducible refine t_and ?_) | (with_reducible refine t_not ?_)
  | ((with_reducible apply e_var); rfl) | (with_reducible refine e_int ?_) | (with_reducible refine e_str ?_) | (with_reducible refine e_bl ?_) | (with_reducible refine e_non ?_)
  | (with_reducible refine e_raw ?_) | (with_reducible refine ite_tt ?_) | (with_reducible refine ite_ff ?_) | (with_reducible refine ite_ntt ?_) | (with_reducible refine ite_nff ?_) | (with_reducible refine n_isiS ?_) | (with_reducible refine n_isiL ?_) | (with_reducible refine n_isiT ?_)
  | (with_reducible refine e_op ?_) | (with_reducible refine e_un ?_) | (with_reducible refine e_cb ?_) | (with_reducible refine e_callA ?_) | (with_reducible refine e_andV ?_) | (with_reducible refine e_if ?_)
  | (with_reducible refine a_cons ?_) | (with_reducible refine a_nil ?_)
  | (with_reducible refine o_gt ?_) | (with_reducible refine o_lt ?_) | (with_reducible refine o_le ?_) | (with_reducible refine o_ge ?_) | (with_reducible refine o_add ?_) | (with_reducible refine o_sub ?_) | (with_reducible refine o_neg ?_)
  | (with_reducible refine e_tup ?_) | (with_reducible refine e_lst ?_) | (with_reducible refine exd0 ?_) | (with_reducible refine exd1 ?_) | (with_reducible refine exd2 ?_) | (with_reducible refine exd3 ?_) | (with_reducible refine exd4 ?_) | (with_reducible refine exd5 ?_) | (with_reducible refine exd6 ?_)
  | (with_reducible refine o_isNotI ?_) | (with_reducible refine o_isNotN ?_) | (with_reducible refine o_isNotS ?_) | (with_reducible refine o_isI ?_) | (with_reducible refine o_isN ?_) | (with_reducible refine o_isS ?_) | (with_reducible refine o_isT ?_)
  | (with_reducible refine t_yes ?_) | (with_reducible refine gw_name (by decide) ?_)
  | (with_reducible refine s_par ?_) | (with_reducible refine ex2 ?_) | (with_reducible refine o_eqI ?_) | (with_reducible refine o_neI ?_) | (with_reducible refine o_ixL (by assumption) (by assumption) ?_)
  | (with_reducible refine e_sl ?_) | (with_reducible refine l_none ?_) | (with_reducible refine l_some ?_)
  | (with_reducible refine n_list (by assumption) ?_)
  | (with_reducible refine s_par3 ?_) | (with_reducible refine o_isB ?_)
  | (with_reducible refine g_u2 ?_) | (with_reducible refine g_u3 ?_) | (with_reducible refine g_u4 ?_) | (with_reducible refine g_u5 ?_) | (with_reducible refine g_u6 ?_) | (with_reducible refine g_cons ?_) | (with_reducible refine g_nil ?_) | (with_reducible refine gw_u2 ?_) | (with_reducible refine gw_u3 ?_) | (with_reducible refine gw_u4 ?_) | (with_reducible refine gw_u5 ?_) | (with_reducible refine gw_u6 ?_) | (with_reducible refine gw_cons ?_) | (with_reducible refine gw_nil ?_)
  | (with_reducible refine e_chain ?_) | (with_reducible refine e_chain3 ?_) | (with_reducible refine e_orV ?_) | (with_reducible refine e_notV ?_)
  | (with_reducible refine ite_dec (fun h => absurd h (by decide)) (fun _ => ?_)) | (with_reducible refine ite_dec (fun _ => ?_) (fun h => absurd (by decide) h))
  | (with_reducible refine ite_dec (fun _ => ?_) (fun h => absurd (by omega) h)) | (with_reducible refine ite_dec (fun h => absurd h (by omega)) (fun _ => ?_))
  | (with_reducible refine ite_ndec (fun _ => ?_) (fun h => absurd h (by omega))) | (with_reducible refine ite_ndec (fun h => absurd (by omega) h) (fun _ => ?_))
  | (with_reducible refine Exists.intro _ (And.intro rfl ?_))))
local macro_rules | `(tactic| walk_at "st") => `(tactic| simp only [List.map_cons, List.map_nil, List.length_cons, List.length_nil, Nat.reduceAdd, Nat.reduceSub, List.replicate, List.cons_append, List.nil_append])
variable {K : PySem.W.Frag} {B : Base} {W : WX} {ss : List Sl} {o : O} {Rt : Sl → O → Prop} {Xt : Addr → List (Str × D) → O → Prop}
theorem w_check_numbers (c : c_check_numbers K ss o Rt Xt) (hX : ∀ ρ o C' fs, Xt C' fs o → AX B W ρ o C' fs) : Wf (r_check_numbers K W) 3 B ss o Rt := by
  obtain ⟨x, ns, rfl, hL, h1, h2⟩ := c
  unfold Wf r_check_numbers
  walk_at "st"
  refine s_forL ?_
  walk_at "e"
  refine ⟨_, hL, fun i ρ' o' => o' = o ∧ (∃ u, ρ' = [some x, some (.da (.int 1000000000)), u]) ∧ ((ns.take i).any fun i => farN (some i)) = false, ⟨rfl, ⟨_, rfl⟩, rfl⟩, fun i ρ' o' _ q => by rw [q.1]; exact hL, ?_, ?_⟩
  · rintro i d ρ' o' hd ⟨rfl, ⟨u, rfl⟩, hf⟩
    obtain ⟨d', hd', _, rfl, _⟩ := map_get hd
    obtain ⟨m, hm, hmm, rfl, _⟩ := map_get hd'
    have bad : farN (some m) = true → (ns.any fun i => farN (some i)) = true := fun q => List.any_eq_true.mpr ⟨m, hmm, q⟩
    walk_at "e"
    refine ite_dec (fun h => ?_) fun h => ?_
    · walk_at "e"
      refine s_raiseX ?_
      walk_at "e"
      exact ⟨[.str "numbers"], rfl, rfl, by decide, hX _ _ _ _ (h1 (bad (by simp [farN, h])))⟩
    · walk_at "e"
      refine ite_dec (fun h' => ?_) fun h' => ?_
      · refine s_raiseX ?_
        walk_at "e"
        exact ⟨[.str "numbers"], rfl, rfl, by decide, hX _ _ _ _ (h1 (bad (by simp [farN, h'])))⟩
      · walk_at "e"
        refine ⟨rfl, ⟨_, rfl⟩, ?_⟩
        rw [List.take_add_one, hm, List.any_append, hf]
        simp [farN]
        omega
  · rintro ρ' o' ⟨rfl, _, hf⟩
    rw [List.length_map, List.length_map, List.take_length] at hf
    exact h2 hf
theorem most_ok {K : PySem.W.Frag} {w : Str} {m n : Int} {o : O} {P : Sl → O → Prop} {X : Addr → List (Str × D) → O → Prop} (h : m ≤ n) (p : P (.da .non) o) : c_check_most K [.da (.str w), .da (.int m), .da (.int n)] o P X := ⟨w, m, n, rfl, fun z => absurd z (by omega), fun _ => p⟩
theorem w_check_bounds (c : c_check_bounds K ss o Rt Xt) : Wf (r_check_bounds K W) 13 B ss o Rt := by
  obtain ⟨w, x, rfl, ok, hL, h⟩ := c
  unfold Wf r_check_bounds
  walk_at "st"
  have a1 := ok.h8
  have a2 := ok.t1
  have a3 := ok.nm
  have a4 := ok.nc
  have a5 := ok.nd
  have a6 := ok.nr
  have a7 := ok.ns
  have a8 := ok.nl
  walk_at "e"
  refine most_ok (by omega) ?_
  walk_at "e"
  refine most_ok (by omega) ?_
  walk_at "e"
  refine o_ixL hL (s := .da (.int w.ms.length)) rfl ?_
  walk_at "e"
  refine most_ok (by omega) ?_
  walk_at "e"
  refine o_ixL hL (s := .da (.int w.cs.length)) rfl ?_
  walk_at "e"
  refine most_ok (by omega) ?_
  walk_at "e"
  refine o_ixL hL (s := .da (.int w.ds.length)) rfl ?_
  walk_at "e"
  refine most_ok (by omega) ?_
  walk_at "e"
  refine o_ixL hL (s := .da (.int w.rs.length)) rfl ?_
  walk_at "e"
  refine most_ok (by omega) ?_
  walk_at "e"
  refine o_ixL hL (s := .da (.int w.ss.length)) rfl ?_
  walk_at "e"
  refine most_ok (by omega) ?_
  walk_at "e"
  refine o_ixL hL (s := .da (.int w.ls.length)) rfl ?_
  walk_at "e"
  refine most_ok (by omega) ?_
  refine s_seq (s_asg (e_lstO (a_nil ⟨Nat.zero_le _, g_name ?_⟩)))
  refine s_seq (s_for ?_)
  walk_at "e"
  refine ⟨fun i ρ' o' => ∃ (ns : List Int) (a b c d e : Option Sl), ns.length ≤ 2 * i ∧ i ≤ w.ds.length ∧ (∀ n, n ∈ ns → fit n) ∧ o' = o ++ [.lst ((ns.map D.int).map Sl.da)] ∧ ρ' = [some (.da (.int w.hc)), some (.da (.int w.last)), some x, some (.da (.lst (w.ds.map DR.d))), some (.da (.lst (w.rs.map RR.d))), some (.da (.lst (w.ss.map SR.d))), some (.ow o.length), a, b, c, d, e, none],
    ⟨[], _, _, _, _, _, Nat.le_refl _, Nat.zero_le _, (fun n hn => by cases hn), rfl, rfl⟩, ?_, ?_⟩
  · rintro i d ρ' o' hd ⟨ns, a, b, c, d', e, hl, hi, hf, rfl, rfl⟩
    obtain ⟨r, hr, hm, rfl, hlt⟩ := map_get hd
    obtain ⟨f1, f2⟩ := ok.fd r hm
    walk_at "e"
    refine e_ext (acc := ns.map D.int) rfl get_new (by rw [List.length_map]; omega) ?_
    walk_at "e"
    refine ⟨Nat.le_of_ble_eq_true rfl, rfl, ns ++ [r.lo, r.hi], _, _, _, _, _, by rw [List.length_append]; simp; omega, by omega, fun n hn => ?_, ?_, rfl⟩
    · rcases List.mem_append.mp hn with q | q
      · exact hf n q
      · rcases List.mem_cons.mp q with q | q
        · rw [q]; exact f1
        · rw [List.mem_singleton.mp q]; exact f2
    · rw [set_new]
      simp
  · rintro ρ' o' ⟨ns, a, b, c, d', e, hl, hi, hf, rfl, rfl⟩
    rw [List.length_map] at hl
    refine s_seq (s_drop (e_ext (acc := ns.map D.int) rfl get_new (by rw [List.length_map]; omega) ?_))
    refine a_cons (lc_map RR.d (fun r => .int r.plus) w.rs (by omega) (e_var rfl ⟨rfl, rfl⟩) ?_ ?_)
    · intro r hr
      walk_at "e"
      refine ⟨rfl, ?_⟩
      walk_at "e"
      refine o_ixT at2 ?_
      exact ⟨rfl, rfl⟩
    walk_at "e"
    refine ⟨by rw [List.length_map]; omega, rfl, ?_⟩
    rw [set_new]
    refine s_seq (s_drop (e_ext (acc := ns.map D.int ++ w.rs.map fun r => .int r.plus) rfl get_new (by rw [List.length_append, List.length_map, List.length_map]; omega) ?_))
    refine a_cons (lc_map SR.d (fun r => .int r.reach) w.ss (by omega) (e_var rfl ⟨rfl, rfl⟩) ?_ ?_)
    · intro r hr
      walk_at "e"
      refine ⟨rfl, ?_⟩
      walk_at "e"
      refine o_ixT (d := .int r.reach) rfl ?_
      exact ⟨rfl, rfl⟩
    walk_at "e"
    refine ⟨by rw [List.length_map]; omega, rfl, ?_⟩
    rw [set_new]
    walk_at "e"
    have all : ∀ n, n ∈ ns ++ (w.rs.map RR.plus ++ w.ss.map SR.reach) → farN (some n) = false := fun n hn => by
      have : fit n := by
        rcases List.mem_append.mp hn with q | q
        · exact hf n q
        · rcases List.mem_append.mp q with q | q
          · obtain ⟨r, hr, rfl⟩ := List.mem_map.mp q
            exact ok.fr r hr
          · obtain ⟨r, hr, rfl⟩ := List.mem_map.mp q
            exact ok.fs r hr
      obtain ⟨t1, t2⟩ := this
      simp [farN]
      omega
    refine ⟨.ow o.length, ns ++ (w.rs.map RR.plus ++ w.ss.map SR.reach), rfl, ?_, fun z => ?_, fun _ => ?_⟩
    · show (o ++ [_])[o.length]? = _
      rw [get_new]
      simp [Function.comp_def]
    · obtain ⟨n, hn, hz⟩ := List.any_eq_true.mp z
      rw [all n hn] at hz
      cases hz
    · exact h _ ⟨_, rfl⟩
theorem sub_pos {ws ms : List Str} (h : ws.Sublist ms) (hn : ms.Nodup) : (ws.map fun x => ms.idxOf x).Pairwise (· < ·) := by
  have e : ms.map (fun x => ms.idxOf x) = List.range ms.length := by
    apply List.ext_getElem
    · simp
    · intro i h1 h2
      rw [List.getElem_map, List.getElem_range]
      rw [List.length_map] at h1
      exact List.Nodup.idxOf_getElem hn i h1
  refine List.Pairwise.sublist (h.map _) ?_
  rw [e]
  exact List.pairwise_lt_range
theorem w_in_order (c : c_in_order K ss o Rt Xt) : Wf (r_in_order K W) 4 B ss o Rt := by
  obtain ⟨ws, ms, rfl, hs, hn, hw, h⟩ := c
  unfold Wf r_in_order
  walk_at "st"
  have hp := sub_pos hs hn
  walk_at "e"
  refine s_for ?_
  walk_at "e"
  refine ⟨fun i ρ' o' => o' = o ∧ ∃ (p : Int) (u : Option Sl), (∀ (j : Nat) x, i ≤ j → ws[j]? = some x → p < ms.idxOf x) ∧ ρ' = [some (.da (.lst (txs ws))), some (.da (.lst (txs ms))), some (.da (.int p)), u], ⟨rfl, _, _, fun j x _ _ => by omega, rfl⟩, ?_, ?_⟩
  · rintro i d ρ' o' hd ⟨rfl, p, u, hq, rfl⟩
    obtain ⟨x, hx, hm, rfl, hi⟩ := map_get hd
    have hxm : x ∈ ms := hs.subset hm
    have px := hq i x (Nat.le_refl _) hx
    walk_at "e"
    refine o_notInL rfl (py_txs _) (by simp [D.py, PyData.depth]) ?_
    rw [any_txs, dt hxm]
    walk_at "e"
    refine e_bm ?_
    walk_at "e"
    refine ⟨⟨_, rfl⟩, ?_⟩
    walk_at "e"
    refine m_indexS hxm hw ?_
    walk_at "e"
    refine e_bm ?_
    walk_at "e"
    refine ⟨⟨_, rfl⟩, ?_⟩
    walk_at "e"
    refine m_indexS hxm hw ?_
    walk_at "e"
    refine ⟨rfl, _, _, fun j y hj hy => ?_, rfl⟩
    have hjl := (List.getElem?_eq_some_iff.mp hy).1
    have := List.pairwise_iff_getElem.mp hp i j (by rw [List.length_map]; omega) (by rw [List.length_map]; omega) (by omega)
    rw [List.getElem_map, List.getElem_map] at this
    obtain ⟨_, e1⟩ := List.getElem?_eq_some_iff.mp hx
    obtain ⟨_, e2⟩ := List.getElem?_eq_some_iff.mp hy
    rw [e1, e2] at this
    omega
  · rintro ρ' o' ⟨rfl, p, u, hq, rfl⟩
    walk_at "e"
    exact h
theorem w_are_sides (c : c_are_sides K ss o Rt Xt) : Wf (r_are_sides K W) 4 B ss o Rt := by
  obtain ⟨yes, no, ms, rfl, sd, hn, hw, h⟩ := c
  unfold Wf r_are_sides
  walk_at "st"
  walk_at "e"
  refine ⟨yes, ms, rfl, sd.y, hn, hw, ?_⟩
  walk_at "e"
  refine ⟨no, ms, rfl, sd.n, hn, hw, ?_⟩
  walk_at "e"
  refine e_lc ?_
  walk_at "e"
  refine ⟨fun i acc o' => o' = o ∧ acc = [], ⟨rfl, rfl⟩, fun i acc o' q => by rw [q.2]; decide, ?_, ?_⟩
  · rintro i d acc o' hd ⟨rfl, rfl⟩
    obtain ⟨x, hx, hm, rfl, hi⟩ := map_get hd
    walk_at "e"
    refine o_inL rfl (py_txs _) (by simp [D.py, PyData.depth]) ?_
    rw [any_txs, df (sd.d x hm)]
    walk_at "e"
    exact ⟨rfl, rfl⟩
  · rintro acc o' ⟨rfl, rfl⟩
    walk_at "e"
    refine o_eq rfl rfl (by simp [D.py, D.pyL, PyData.depth, PyData.depthAll]) ?_
    exact h
theorem s_rangeL {ρ : R} {D0 : AD} {g : TG} {tb : TS} {i : Nat} {x : Sl} {ss : List Sl} (hi : ρ[i]? = some (some x)) (hL : LL o x ss) (hl : ss.length ≤ 1000000) (Pv : Nat → R → O → Prop) (h0 : Pv 0 ρ o)
    (hs : ∀ (i : Nat) ρ' o', i < ss.length → Pv i ρ' o' → AG B g (.da (.int (i : Int))) ρ' o' fun ρ2 o2 => WS B tb { D0 with nx := Pv (i + 1), ct := Pv (i + 1), bk := D0.nx } ρ2 o2) (hd : ∀ ρ' o', Pv ss.length ρ' o' → D0.nx ρ' o') :
    WS B (tFor (iRng1 (tCons (tCB (rLenA K) (tCons (tVar i) tNil)) tNil)) g tb) D0 ρ o := by
  refine s_range1 (a_cons (e_cb (a_cons (e_var hi (a_nil (n_len hL (a_nil ⟨_, rfl, by omega, by omega, Pv, h0, fun i ρ' o' hi p => hs i ρ' o' (by omega) p, fun ρ' o' p => hd ρ' o' (by rw [Int.toNat_natCast] at p; exact p)⟩)))))))
theorem nd_take {ws : List Str} {i : Nat} {x : Str} (hn : ws.Nodup) (hx : ws[i]? = some x) : x ∉ ws.take i := fun z => by
  obtain ⟨j, hj, e⟩ := List.getElem_of_mem z
  rw [List.length_take] at hj
  rw [List.getElem_take] at e
  obtain ⟨h1, e1⟩ := List.getElem?_eq_some_iff.mp hx
  have := List.pairwise_iff_getElem.mp hn j i (by omega) (by omega) (by omega)
  exact this (e.trans e1.symm)
theorem nd_take2 {ws : List (List Str)} {i : Nat} {x : List Str} (hn : ws.Nodup) (hx : ws[i]? = some x) : x ∉ ws.take i := fun z => by
  obtain ⟨j, hj, e⟩ := List.getElem_of_mem z
  rw [List.length_take] at hj
  rw [List.getElem_take] at e
  obtain ⟨h1, e1⟩ := List.getElem?_eq_some_iff.mp hx
  have := List.pairwise_iff_getElem.mp hn j i (by omega) (by omega) (by omega)
  exact this (e.trans e1.symm)
theorem isW_len {w : Str} (h : isW w = true) : 1 ≤ w.length ∧ w.length ≤ 12 := by
  unfold isW at h
  simp only [Bool.and_eq_true, decide_eq_true_eq] at h
  exact h.1
theorem txs_take {l : List Str} {i : Nat} : (txs l).take i = txs (l.take i) := by unfold txs; rw [List.map_take]
theorem csD_take {l : List (List Str)} {i : Nat} : (csD l).take i = csD (l.take i) := by unfold csD; rw [List.map_take]
theorem w_check_mishaps (c : c_check_mishaps K ss o Rt Xt) : Wf (r_check_mishaps K W) 2 B ss o Rt := by
  obtain ⟨ms, rfl, hn, hl, hw, h⟩ := c
  unfold Wf r_check_mishaps
  walk_at "st"
  refine s_rangeL (ss := (txs ms).map Sl.da) rfl rfl (by simp [txs]; omega) (fun i ρ' o' => o' = o ∧ ∃ u, ρ' = [some (.da (.lst (txs ms))), u]) ⟨rfl, _, rfl⟩ ?_ ?_
  · rintro i ρ' o' hi ⟨rfl, u, rfl⟩
    have hi' : i < ms.length := by simpa [txs] using hi
    have hx : ms[i]? = some ms[i] := List.getElem?_eq_getElem hi'
    have hxm := List.mem_of_getElem? hx
    have e1 : atI (txs ms) (i : Int) = some (.str ms[i]) := atI_map (atI_nat hx)
    walk_at "e"
    refine o_ix e1 ?_
    walk_at "e"
    refine ⟨ms[i], rfl, sizeBig (by have := isW_len (hw _ hxm); omega), ?_⟩
    rw [hw _ hxm]
    walk_at "e"
    refine o_ix e1 ?_
    walk_at "e"
    refine wl_lst ?_
    rw [cutD_take _ _ (by simp [txs]; omega), txs_take]
    refine o_inL rfl (py_txs _) (by simp [D.py, PyData.depth]) ?_
    rw [any_txs, df (nd_take hn hx)]
    walk_at "e"
    exact ⟨rfl, _, rfl⟩
  · rintro ρ' o' ⟨rfl, u, rfl⟩
    exact h
theorem w_check_courses (c : c_check_courses K ss o Rt Xt) : Wf (r_check_courses K W) 3 B ss o Rt := by
  obtain ⟨cs, ms, rfl, hn, hl, ⟨t, ht⟩, hs, hmn, hw, h⟩ := c
  unfold Wf r_check_courses
  walk_at "st"
  walk_at "e"
  have p0 : (D.py (.lst (csD cs))).plain = true := by rw [D.py, PyData.plain]; exact py_csD cs
  have z0 : (D.py (.lst [])).depth ≤ 60 := by simp [D.py, D.pyL, PyData.depth, PyData.depthAll]
  refine o_eq p0 rfl (Nat.le_trans (Nat.min_le_right _ _) z0) ?_
  have e0 : PyData.eqv (D.py (.lst (csD cs))) (D.py (.lst [])) = false := by
    rw [ht]
    rfl
  rw [e0]
  walk_at "e"
  refine o_ix (d := .lst (txs [])) (by rw [ht]; show atI (D.lst (txs []) :: csD t) 0 = _; exact at0) ?_
  walk_at "e"
  refine o_ne pl_txs rfl (Nat.le_trans (Nat.min_le_right _ _) z0) ?_
  have e1 : PyData.eqv (D.py (.lst (txs []))) (D.py (.lst [])) = true := rfl
  rw [e1]
  walk_at "e"
  refine s_rangeL (ss := (csD cs).map Sl.da) rfl rfl (by simp [csD]; omega) (fun i ρ' o' => o' = o ∧ ∃ u, ρ' = [some (.da (.lst (csD cs))), some (.da (.lst (txs ms))), u]) ⟨rfl, _, rfl⟩ ?_ ?_
  · rintro i ρ' o' hi ⟨rfl, u, rfl⟩
    have hi' : i < cs.length := by simpa [csD] using hi
    have hx : cs[i]? = some cs[i] := List.getElem?_eq_getElem hi'
    have hxm := List.mem_of_getElem? hx
    have e1 : atI (csD cs) (i : Int) = some (.lst (txs cs[i])) := atI_map (atI_nat hx)
    walk_at "e"
    refine o_ix e1 ?_
    walk_at "e"
    refine ⟨cs[i], ms, rfl, hs _ hxm, hmn, hw, ?_⟩
    walk_at "e"
    refine o_ix e1 ?_
    walk_at "e"
    refine wl_lst ?_
    rw [cutD_take _ _ (by simp [csD]; omega), csD_take]
    refine o_inL pl_txs (py_csD _) (by rw [dep_lst]; decide) ?_
    rw [any_csD, df (nd_take2 hn hx)]
    walk_at "e"
    exact ⟨rfl, _, rfl⟩
  · rintro ρ' o' ⟨rfl, u, rfl⟩
    exact h
end K07
end AB

set_option Elab.async false
set_option linter.all false
set_option maxRecDepth 100000
set_option maxHeartbeats 4000000
set_option autoImplicit false
namespace AB
open PySem L2 PySem.Spec PyProof.Rows He
namespace K07
local macro_rules | `(tactic| walk_at "e") => `(tactic| repeat' (first
  | (with_reducible refine s_seq ?_) | (with_reducible refine s_if ?_) | (with_reducible refine s_drop ?_) | (with_reducible refine s_ret ?_) | (with_reducible refine s_next ?_) | (with_reducible refine s_asg ?_)
  | (with_reducible refine g_name ?_)
  | (with_reducible refine t_test ?_) | (with_reducible refine t_B ?_) | (with_reducible refine t_or ?_) | (with_reducible refine t_and ?_) | (with_reducible refine t_not ?_)
  | ((with_reducible apply e_var); rfl) | (with_reducible refine e_int ?_) | (with_reducible refine e_str ?_) | (with_reducible refine e_bl ?_) | (with_reducible refine e_non ?_)
  | (with_reducible refine e_raw ?_) | (with_reducible refine ite_tt ?_) | (with_reducible refine ite_ff ?_) | (with_reducible refine ite_ntt ?_) | (with_reducible refine ite_nff ?_) | (with_reducible refine n_isiS ?_) | (with_reducible refine n_isiL ?_) | (with_reducible refine n_isiT ?_)
  | (with_reducible refine e_op ?_) | (with_reducible refine e_un ?_) | (with_reducible refine e_cb ?_) | (with_reducible refine e_callA ?_) | (with_reducible refine e_andV ?_) | (with_reducible refine e_if ?_)
  | (with_reducible refine a_cons ?_) | (with_reducible refine a_nil ?_)
  | (with_reducible refine o_gt ?_) | (with_reducible refine o_lt ?_) | (with_reducible refine o_le ?_) | (with_reducible refine o_ge ?_) | (with_reducible refine o_add ?_) | (with_reducible refine o_sub ?_) | (with_reducible refine o_neg ?_)
  | (with_reducible refine e_tup ?_) | (with_reducible refine e_lst ?_) | (with_reducible refine exd0 ?_) | (with_reducible refine exd1 ?_) | (with_reducible refine exd2 ?_) | (with_reducible refine exd3 ?_) | (with_reducible refine exd4 ?_) | (with_reducible refine exd5 ?_) | (with_reducible refine exd6 ?_)
  | (with_reducible refine o_isNotI ?_) | (with_reducible refine o_isNotN ?_) | (with_reducible refine o_isNotS ?_) | (with_reducible refine o_isI ?_) | (with_reducible refine o_isN ?_) | (with_reducible refine o_isS ?_) | (with_reducible refine o_isT ?_)
  | (with_reducible refine t_yes ?_) | (with_reducible refine gw_name (by decide) ?_)
  | (with_reducible refine s_par ?_) | (with_reducible refine ex2 ?_) | (with_reducible refine o_eqI ?_) | (with_reducible refine o_neI ?_) | (with_reducible refine o_ixL (by assumption) (by assumption) ?_)
  | (with_reducible refine e_sl ?_) | (with_reducible refine l_none ?_) | (with_reducible refine l_some ?_)
  | (with_reducible refine n_list (by assumption) ?_)
  | (with_reducible refine s_par3 ?_) | (with_reducible refine o_isB ?_)
  | (with_reducible refine g_u2 ?_) | (with_reducible refine g_u3 ?_) | (with_reducible refine g_u4 ?_) | (with_reducible refine g_u5 ?_) | (with_reducible refine g_u6 ?_) | (with_reducible refine g_cons ?_) | (with_reducible refine g_nil ?_) | (with_reducible refine gw_u2 ?_) | (with_reducible refine gw_u3 ?_) | (with_reducible refine gw_u4 ?_) | (with_reducible refine gw_u5 ?_) | (with_reducible refine gw_u6 ?_) | (with_reducible refine gw_cons ?_) | (with_reducible refine gw_nil ?_)
  | (with_reducible refine e_chain ?_) | (with_reducible refine e_chain3 ?_) | (with_reducible refine e_orV ?_) | (with_reducible refine e_notV ?_)
  | (with_reducible refine ite_dec (fun h => absurd h (by decide)) (fun _ => ?_)) | (with_reducible refine ite_dec (fun _ => ?_) (fun h => absurd (by decide) h))
  | (with_reducible refine ite_dec (fun _ => ?_) (fun h => absurd (by omega) h)) | (with_reducible refine ite_dec (fun h => absurd h (by omega)) (fun _ => ?_))
  | (with_reducible refine ite_ndec (fun _ => ?_) (fun h => absurd h (by omega))) | (with_reducible refine ite_ndec (fun h => absurd (by omega) h) (fun _ => ?_))
  | (with_reducible refine Exists.intro _ (And.intro rfl ?_))))
local macro_rules | `(tactic| walk_at "st") => `(tactic| simp only [List.map_cons, List.map_nil, List.length_cons, List.length_nil, Nat.reduceAdd, Nat.reduceSub, List.replicate, List.cons_append, List.nil_append])
variable {K : PySem.W.Frag} {B : Base} {W : WX} {ss : List Sl} {o : O} {Rt : Sl → O → Prop} {Xt : Addr → List (Str × D) → O → Prop}
theorem fj0 {o : O} {u : OO} : (o ++ [u])[o.length]? = some u := get_new
theorem o_inDk {x : Str} {j : Nat} {l : List (Key × D)} {P : Sl → O → Prop} (h : o[j]? = some (.dic (dsl l))) (p : P (.da (.bl (getK l (.inr x)).isSome)) o) : A2 B (rInA K) (.da (.str x)) (.ow j) o P :=
  o_inDO (k := .inr x) h (by rw [getK_dsl_some]; exact p)
theorem w_check_decisions (c : c_check_decisions K ss o Rt Xt) : Wf (r_check_decisions K W) 11 B ss o Rt := by
  obtain ⟨w, rfl, ok, h⟩ := c
  unfold Wf r_check_decisions
  walk_at "st"
  have a5 := ok.nd
  walk_at "e"
  refine e_dnew ?_
  walk_at "e"
  refine s_rangeL (ss := (w.ds.map DR.d).map Sl.da) rfl rfl (by simp; omega) (fun i ρ' o' => o' = o ++ [.dic (dsl (mkK DR.n (fun i _ => .int i) (w.ds.take i) []))] ∧ ∃ a b c d e f g, ρ' = [some (.da (.lst (w.ds.map DR.d))), some (.da (.int w.hc)), some (.da (.int w.last)), some (.ow o.length), a, b, c, d, e, f, g]) ⟨rfl, _, _, _, _, _, _, _, rfl⟩ ?_ ?_
  · rintro i ρ' o' hi ⟨rfl, a, b, c, d, e, f, g, rfl⟩
    have hi' : i < w.ds.length := by simpa using hi
    have hx : w.ds[i]? = some w.ds[i] := List.getElem?_eq_getElem hi'
    obtain ⟨r, hr⟩ : ∃ r, r = w.ds[i] := ⟨_, rfl⟩
    rw [← hr] at hx
    have hxm := List.mem_of_getElem? hx
    obtain ⟨q1, q2, q3, q4, q5, q6⟩ := ok.dw r hxm
    obtain ⟨g1, g2, g3⟩ := mkK_get (f := fun i _ => D.int i) w.ds ok.dn i (by omega)
    have nx : r.n ∉ (w.ds.take i).map DR.n := by
      rw [List.map_take]
      exact nd_take ok.dn (by rw [List.getElem?_map, hx]; rfl)
    have e1 : atI (w.ds.map DR.d) (i : Int) = some (DR.d r) := atI_map (atI_nat hx)
    walk_at "e"
    refine o_ix e1 ?_
    walk_at "e"
    refine ⟨r.n, rfl, sizeBig (by have := isW_len q1; omega), ?_⟩
    rw [q1]
    walk_at "e"
    refine o_inDk get_new ?_
    rw [g3 _ nx, Option.isSome_none, dt q6]
    walk_at "e"
    refine s_dput (tv := tC .non) ?_
    walk_at "e"
    refine ⟨o.length, _, .inr r.n, rfl, rfl, get_new, by rw [dsl_len, g1, sizeLine_eq]; omega, ?_, _, _, _, _, _, _, _, rfl⟩
    rw [set_new, putS_dsl, List.take_add_one, hx, mkK_app]
    show _ = o ++ [OO.dic (dsl (putD _ _ (D.int (mkK DR.n (fun i _ => D.int i) (w.ds.take i) []).length)))]
    rw [g1]
  · rintro ρ' o' ⟨rfl, _⟩
    exact h _ ⟨_, rfl⟩
theorem isS_raw {x : Option Str} : ∀ w, Sl.da (optSD x) ≠ .da (.raw w) := fun w z => by cases x <;> cases z
theorem eqv_opt {a b : Option Str} : PyData.eqv (D.py (optSD a)) (D.py (optSD b)) = decide (a = b) := by
  cases a <;> cases b
  · rfl
  · simp [D.py, optSD, PyData.eqv]
  · simp [D.py, optSD, PyData.eqv]
  · rename_i x y
    show PyData.eqv (.str x) (.str y) = _
    rw [eqv_str]
    simp
theorem pl_opt {a : Option Str} : (D.py (optSD a)).plain = true := by cases a <;> rfl
theorem dep_opt {a : Option Str} : (D.py (optSD a)).depth = 0 := by cases a <;> simp [D.py, optSD, PyData.depth]
theorem mem_addN {k k' : Option Str} {ks : List (Option Str)} : k' ∈ addN ks k ↔ k' ∈ ks ∨ k' = k := by
  unfold addN
  split
  · rename_i h
    constructor
    · exact .inl
    · rintro (q | rfl)
      · exact q
      · first | exact h | exact of_decide_eq_true h | simpa using h
  · simp
theorem addN_len {k : Option Str} {ks : List (Option Str)} : (addN ks k).length ≤ ks.length + 1 := by
  unfold addN
  split <;> simp
theorem w_check_rules {Pg : Program} {w0 : World} (c : c_check_rules K ss o Rt Xt) : Wf (r_check_rules Pg w0 K W) 10 B ss o Rt := by
  obtain ⟨w, rfl, ok, h⟩ := c
  unfold Wf r_check_rules
  walk_at "st"
  have a5 := ok.nd
  have a6 := ok.nr
  refine s_seq (s_asg (e_ndisp (e_int ⟨rfl, g_name ?_⟩)))
  refine s_seq (s_for ?_)
  walk_at "e"
  refine ⟨fun i ρ' o' => ∃ (ks : List (Option Str)) (u : Option Sl), none ∈ ks ∧ ks.length ≤ i + 1 ∧ (∀ n, n ∈ (w.ds.map DR.n).take i → some n ∈ ks) ∧ o' = o ++ [.nd Pg w0 ks] ∧ ρ' = [some (.da (.lst (w.rs.map RR.d))), some (.da (.lst (txs (w.ds.map DR.n)))), some (.da (.lst (txs w.ms))), some (.ow o.length), u, none, none, none, none, none],
    ⟨[none], _, by simp, by simp, by simp, rfl, rfl⟩, ?_, ?_⟩
  · rintro i d ρ' o' hd ⟨ks, u, k0, kl, hk, rfl, rfl⟩
    obtain ⟨x, hx, hm, rfl, hi⟩ := map_get hd
    rw [List.length_map] at hi
    refine g_name (s_nput ?_)
    walk_at "e"
    refine ⟨o.length, some x, ks, rfl, rfl, get_new, Nat.lt_of_le_of_lt kl (by rw [sizeLine_eq]; omega), addN ks (some x), _, mem_addN.mpr (.inl k0), by have := addN_len (k := some x) (ks := ks); omega, fun n hn => ?_, set_new, rfl⟩
    rw [List.take_add_one, hx] at hn
    rcases List.mem_append.mp hn with q | q
    · exact mem_addN.mpr (.inl (hk n q))
    · have : n = x := by simpa using q
      rw [this]
      exact mem_addN.mpr (.inr rfl)
  · rintro ρ' o' ⟨ks, u, k0, kl, hk, rfl, rfl⟩
    have hk' : ∀ n, n ∈ w.ds.map DR.n → some n ∈ ks := fun n hn => hk n (by rw [txs, List.length_map, List.take_length]; exact hn)
    refine s_rangeL (ss := (w.rs.map RR.d).map Sl.da) rfl rfl (by simp; omega) (fun i ρ' o' => o' = o ++ [.nd Pg w0 ks] ∧ ∃ a b c d e f, ρ' = [some (.da (.lst (w.rs.map RR.d))), some (.da (.lst (txs (w.ds.map DR.n)))), some (.da (.lst (txs w.ms))), some (.ow o.length), a, b, c, d, e, f]) ⟨rfl, _, _, _, _, _, _, rfl⟩ ?_ ?_
    · rintro i ρ' o' hi ⟨rfl, a, b, c, d, e, f, rfl⟩
      have hi' : i < w.rs.length := by simpa using hi
      have hx : w.rs[i]? = some w.rs[i] := List.getElem?_eq_getElem hi'
      obtain ⟨r, hr⟩ : ∃ r, r = w.rs[i] := ⟨_, rfl⟩
      rw [← hr] at hx
      have hxm := List.mem_of_getElem? hx
      obtain ⟨q1, q2, q3, q4⟩ := ok.rw_ r hxm
      have m1 : r.n ∈ ks := by
        cases e : r.n with
        | none => exact k0
        | some n => exact hk' n (q1 n e)
      have m2 : r.b ∈ ks := by
        cases e : r.b with
        | none => exact k0
        | some n => exact hk' n (q2 n e)
      have e1 : atI (w.rs.map RR.d) (i : Int) = some (RR.d r) := atI_map (atI_nat hx)
      walk_at "e"
      refine o_ix e1 ?_
      walk_at "e"
      refine o_inN get_new ?_
      rw [dt m1]
      walk_at "e"
      refine o_inN get_new ?_
      rw [dt m2]
      walk_at "e"
      refine o_eq pl_opt pl_opt (by rw [dep_opt]; omega) ?_
      rw [eqv_opt, df q3]
      walk_at "e"
      refine ⟨r.yes, r.no, w.ms, rfl, q4, ok.mn, ok.mw, ?_⟩
      walk_at "e"
      exact ⟨rfl, _, _, _, _, _, _, rfl⟩
    · rintro ρ' o' ⟨rfl, _⟩
      exact h _ ⟨_, rfl⟩
theorem w_check_letters (c : c_check_letters K ss o Rt Xt) : Wf (r_check_letters K W) 12 B ss o Rt := by
  obtain ⟨w, rfl, ok, h⟩ := c
  unfold Wf r_check_letters
  walk_at "st"
  have a8 := ok.nl
  refine s_rangeL (ss := (w.ls.map LR.d).map Sl.da) rfl rfl (by simp; omega) (fun i ρ' o' => o' = o ∧ ∃ a b c d e f g k, ρ' = [some (.da (.lst (w.ls.map LR.d))), some (.da (.int w.hc)), some (.da (.int w.last)), some (.da (.lst (txs w.ms))), a, b, c, d, e, f, g, k]) ⟨rfl, _, _, _, _, _, _, _, _, rfl⟩ ?_ ?_
  · rintro i ρ' o' hi ⟨rfl, a, b, c, d, e, f, g, k, rfl⟩
    have hi' : i < w.ls.length := by simpa using hi
    have hx : w.ls[i]? = some w.ls[i] := List.getElem?_eq_getElem hi'
    obtain ⟨r, hr⟩ : ∃ r, r = w.ls[i] := ⟨_, rfl⟩
    rw [← hr] at hx
    have hxm := List.mem_of_getElem? hx
    obtain ⟨q1, q2, q3, q4, q5, q6, q7, q8, q9⟩ := ok.lw r hxm
    have e1 : atI (w.ls.map LR.d) (i : Int) = some (LR.d r) := atI_map (atI_nat hx)
    walk_at "e"
    refine o_ix e1 ?_
    walk_at "e"
    rw [df q5, Bool.not_false]
    walk_at "e"
    refine ⟨r.yes, r.no, w.ms, rfl, q9, ok.mn, ok.mw, ?_⟩
    walk_at "e"
    exact ⟨rfl, _, _, _, _, _, _, _, _, rfl⟩
  · rintro ρ' o' ⟨rfl, _⟩
    exact h
theorem w_check_sights (c : c_check_sights K ss o Rt Xt) : Wf (r_check_sights K W) 16 B ss o Rt := by
  obtain ⟨w, rfl, ok, h⟩ := c
  unfold Wf r_check_sights
  walk_at "st"
  have a5 := ok.nd
  have a7 := ok.ns
  walk_at "e"
  refine e_dnew ?_
  refine g_name (s_seq (s_for ?_))
  walk_at "e"
  refine ⟨fun i ρ' o' => o' = o ++ [.dic (dsl (mkK DR.n (fun _ r => .tup [.int r.h, .int r.m]) (w.ds.take i) []))] ∧ ∃ a b c d e, ρ' = [some (.da (.lst (w.ss.map SR.d))), some (.da (.lst (w.ds.map DR.d))), some (.da (.int w.hc)), some (.da (.int w.last)), some (.da (.lst (txs w.ms))), some (.ow o.length), a, b, c, d, e, none, none, none, none, none], ⟨rfl, _, _, _, _, _, rfl⟩, ?_, ?_⟩
  · rintro i d ρ' o' hd ⟨rfl, a, b, c, d', e, rfl⟩
    obtain ⟨r, hx, hm, rfl, hi⟩ := map_get hd
    obtain ⟨g1, g2, g3⟩ := mkK_get (f := fun _ r => D.tup [.int r.h, .int r.m]) w.ds ok.dn i (by omega)
    walk_at "e"
    refine s_dput (tv := tC .non) ?_
    walk_at "e"
    refine ⟨o.length, _, .inr r.n, rfl, rfl, get_new, by rw [dsl_len, g1, sizeLine_eq]; omega, ?_, _, _, _, _, _, rfl⟩
    rw [set_new, putS_dsl, List.take_add_one, hx, mkK_app]
    rfl
  · rintro ρ' o' ⟨rfl, a, b, c, d', e, rfl⟩
    rw [List.length_map, List.take_length]
    obtain ⟨g1, g2, g3⟩ := mkK_get (f := fun _ r => D.tup [.int r.h, .int r.m]) w.ds ok.dn w.ds.length (Nat.le_refl _)
    rw [List.take_length] at g1 g2 g3
    generalize mkK DR.n (fun _ r => D.tup [.int r.h, .int r.m]) w.ds [] = L at g1 g2 g3
    refine s_rangeL (ss := (w.ss.map SR.d).map Sl.da) rfl rfl (by simp; omega) (fun i ρ' o' => o' = o ++ [.dic (dsl L)] ∧ ∃ a b c d e f g h i j, ρ' = [some (.da (.lst (w.ss.map SR.d))), some (.da (.lst (w.ds.map DR.d))), some (.da (.int w.hc)), some (.da (.int w.last)), some (.da (.lst (txs w.ms))), some (.ow o.length), a, b, c, d, e, f, g, h, i, j]) ⟨rfl, _, _, _, _, _, _, _, _, _, _, rfl⟩ ?_ ?_
    · rintro i ρ' o' hi ⟨rfl, b1, b2, b3, b4, b5, b6, b7, b8, b9, b10, rfl⟩
      have hi' : i < w.ss.length := by simpa using hi
      have hx : w.ss[i]? = some w.ss[i] := List.getElem?_eq_getElem hi'
      obtain ⟨r, hr⟩ : ∃ r, r = w.ss[i] := ⟨_, rfl⟩
      rw [← hr] at hx
      have hxm := List.mem_of_getElem? hx
      obtain ⟨q1, q2, q3, q4, q5, q6, q7⟩ := ok.sw r hxm
      have e1 : atI (w.ss.map SR.d) (i : Int) = some (SR.d r) := atI_map (atI_nat hx)
      walk_at "e"
      refine o_ix e1 ?_
      walk_at "e"
      refine o_inL rfl (py_txs _) (by simp [D.py, PyData.depth]) ?_
      rw [any_txs, dt q1]
      walk_at "e"
      rw [dt q5]
      cases hd : r.doing with
      | none =>
        walk_at "e"
        refine o_isN ?_
        walk_at "e"
        rw [dt (q6 hd)]
        walk_at "e"
        exact ⟨rfl, _, _, _, _, _, _, _, _, _, _, rfl⟩
      | some n =>
        obtain ⟨dr, d1, d2, d3, d4⟩ := q7 n hd
        obtain ⟨i0, hi0, e0⟩ := List.getElem_of_mem d1
        have hg := g2 i0 dr hi0 (by rw [List.getElem?_eq_getElem hi0, e0])
        rw [d2] at hg
        have hix : getK (dsl L) (.inr n) = some (.da (.tup [.int dr.h, .int dr.m])) := by rw [getK_dsl, hg]; rfl
        walk_at "e"
        refine o_isS ?_
        walk_at "e"
        refine o_inDk get_new ?_
        rw [hg, Option.isSome_some]
        walk_at "e"
        refine o_ixDO (k := .inr n) get_new hix ?_
        walk_at "e"
        refine o_ixT at0 ?_
        walk_at "e"
        refine o_ixDO (k := .inr n) get_new hix ?_
        walk_at "e"
        refine o_ixT at1 ?_
        walk_at "e"
        rw [dt d4]
        walk_at "e"
        exact ⟨rfl, _, _, _, _, _, _, _, _, _, _, rfl⟩
    · rintro ρ' o' ⟨rfl, _⟩
      exact h _ ⟨_, rfl⟩
end K07
end AB

set_option Elab.async false
set_option linter.all false
set_option maxRecDepth 100000
set_option maxHeartbeats 4000000
set_option autoImplicit false
namespace AB
open PySem L2 PySem.Spec PyProof.Rows He
namespace K07
local macro_rules | `(tactic| walk_at "e") => `(tactic| repeat' (first
  | (with_reducible refine s_seq ?_) | (with_reducible refine s_if ?_) | (with_reducible refine s_drop ?_) | (with_reducible refine s_ret ?_) | (with_reducible refine s_next ?_) | (with_reducible refine s_asg ?_)
  | (with_reducible refine g_name ?_)
  | (with_reducible refine t_test ?_) | (with_reducible refine t_B ?_) | (with_reducible refine t_or ?_) | (with_reducible refine t_and ?_) | (with_reducible refine t_not ?_)
  | ((with_reducible apply e_var); rfl) | (with_reducible refine e_int ?_) | (with_reducible refine e_str ?_) | (with_reducible refine e_bl ?_) | (with_reducible refine e_non ?_)
  | (with_reducible refine e_raw ?_) | (with_reducible refine ite_tt ?_) | (with_reducible refine ite_ff ?_) | (with_reducible refine ite_ntt ?_) | (with_reducible refine ite_nff ?_) | (with_reducible refine n_isiS ?_) | (with_reducible refine n_isiL ?_) | (with_reducible refine n_isiT ?_)
  | (with_reducible refine e_ixc ?_ ?_ ?_; · rfl; · rfl) | (with_reducible refine e_ixcT ?_ ?_ ?_; · rfl; · rfl)
  | (with_reducible refine e_op ?_) | (with_reducible refine e_un ?_) | (with_reducible refine e_cb ?_) | (with_reducible refine e_callA ?_) | (with_reducible refine e_andV ?_) | (with_reducible refine e_if ?_)
  | (with_reducible refine a_cons ?_) | (with_reducible refine a_nil ?_)
  | (with_reducible refine o_gt ?_) | (with_reducible refine o_lt ?_) | (with_reducible refine o_le ?_) | (with_reducible refine o_ge ?_) | (with_reducible refine o_add ?_) | (with_reducible refine o_sub ?_) | (with_reducible refine o_neg ?_)
  | (with_reducible refine e_tup ?_) | (with_reducible refine e_lst ?_) | (with_reducible refine exd0 ?_) | (with_reducible refine exd1 ?_) | (with_reducible refine exd2 ?_) | (with_reducible refine exd3 ?_) | (with_reducible refine exd4 ?_) | (with_reducible refine exd5 ?_) | (with_reducible refine exd6 ?_)
  | (with_reducible refine o_isNotI ?_) | (with_reducible refine o_isNotN ?_) | (with_reducible refine o_isNotS ?_) | (with_reducible refine o_isI ?_) | (with_reducible refine o_isN ?_) | (with_reducible refine o_isS ?_) | (with_reducible refine o_isT ?_)
  | (with_reducible refine t_yes ?_) | (with_reducible refine gw_name (by decide) ?_)
  | (with_reducible refine s_par ?_) | (with_reducible refine ex2 ?_) | (with_reducible refine o_eqI ?_) | (with_reducible refine o_neI ?_) | (with_reducible refine o_ixL (by assumption) (by assumption) ?_)
  | (with_reducible refine e_sl ?_) | (with_reducible refine l_none ?_) | (with_reducible refine l_some ?_)
  | (with_reducible refine n_list (by assumption) ?_)
  | (with_reducible refine s_par3 ?_) | (with_reducible refine o_isB ?_)
  | (with_reducible refine g_u2 ?_) | (with_reducible refine g_u3 ?_) | (with_reducible refine g_u4 ?_) | (with_reducible refine g_u5 ?_) | (with_reducible refine g_u6 ?_) | (with_reducible refine g_cons ?_) | (with_reducible refine g_nil ?_) | (with_reducible refine gw_u2 ?_) | (with_reducible refine gw_u3 ?_) | (with_reducible refine gw_u4 ?_) | (with_reducible refine gw_u5 ?_) | (with_reducible refine gw_u6 ?_) | (with_reducible refine gw_cons ?_) | (with_reducible refine gw_nil ?_)
  | (with_reducible refine e_chain ?_) | (with_reducible refine e_chain3 ?_) | (with_reducible refine e_orV ?_) | (with_reducible refine e_notV ?_)
  | (with_reducible refine ite_dec (fun h => absurd h (by decide)) (fun _ => ?_)) | (with_reducible refine ite_dec (fun _ => ?_) (fun h => absurd (by decide) h))
  | (with_reducible refine ite_dec (fun _ => ?_) (fun h => absurd (by omega) h)) | (with_reducible refine ite_dec (fun h => absurd h (by omega)) (fun _ => ?_))
  | (with_reducible refine ite_ndec (fun _ => ?_) (fun h => absurd h (by omega))) | (with_reducible refine ite_ndec (fun h => absurd (by omega) h) (fun _ => ?_))
  | (with_reducible refine Exists.intro _ (And.intro rfl ?_))))
local macro_rules | `(tactic| walk_at "st") => `(tactic| simp only [List.map_cons, List.map_nil, List.length_cons, List.length_nil, Nat.reduceAdd, Nat.reduceSub, List.replicate, List.cons_append, List.nil_append])
variable {K : PySem.W.Frag} {B : Base} {W : WX} {ss : List Sl} {o : O} {Rt : Sl → O → Prop} {Xt : Addr → List (Str × D) → O → Prop}
section
variable {mg : Str → Option Value} (T : Tx K mg)
include T
theorem w_Plan_helpers (c : c_Plan_helpers K ss o Rt Xt) : Wf (r_Plan_helpers K W) 1 B ss o Rt := by
  obtain ⟨w, rfl, h⟩ := c
  exact s_ret (e_pf T.c_Plan T.na_Plan_helper_count fl_hc (e_var rfl ⟨rfl, h⟩))
theorem w_Plan_last (c : c_Plan_last K ss o Rt Xt) : Wf (r_Plan_last K W) 1 B ss o Rt := by
  obtain ⟨w, rfl, h⟩ := c
  exact s_ret (e_pf T.c_Plan T.na_Plan_last_moment fl_last (e_var rfl ⟨rfl, h⟩))
theorem w_Plan_decisions (c : c_Plan_decisions K ss o Rt Xt) : Wf (r_Plan_decisions K W) 1 B ss o Rt := by
  obtain ⟨w, rfl, h⟩ := c
  exact s_ret (e_cb (a_cons (e_pf T.c_Plan T.na_Plan_decision_rows fl_ds (e_var rfl ⟨rfl, a_nil (n_list (ds := w.ds.map DR.d) rfl h)⟩))))
theorem e_lrow {ρ : R} {P : Sl → O → Prop} {i : Nat} {r : LR} (hi : ρ[i]? = some (some (.da (LR.d r)))) (p : P (.da (LR.d r)) o) : AE B (tTup (tCons (tOp (rIxA K) (tVar i) (tC (.int 0))) (tCons (tOp (rIxA K) (tVar i) (tC (.int 1))) (tCons (tOp (rIxA K) (tVar i) (tC (.int 2))) (tCons (tOp (rIxA K) (tVar i) (tC (.int 3))) (tCons (tCB (rListA K) (tCons (tOp (rIxA K) (tVar i) (tC (.int 4))) tNil)) (tCons (tCB (rListA K) (tCons (tOp (rIxA K) (tVar i) (tC (.int 5))) tNil)) tNil))))))) ρ o P := by
  refine e_tup (a_cons (e_ixcT hi rfl (a_cons (e_ixcT hi rfl (a_cons (e_ixcT hi rfl (a_cons (e_ixcT hi rfl (a_cons (e_cb (a_cons (e_ixcT hi (d := .lst (txs r.yes)) rfl (a_nil (n_list (ds := txs r.yes) rfl (a_cons (e_cb (a_cons (e_ixcT hi (d := .lst (txs r.no)) rfl (a_nil (n_list (ds := txs r.no) rfl (a_nil (exd6 p))))))))))))))))))))))
theorem w_Plan_letters (c : c_Plan_letters K ss o Rt Xt) : Wf (r_Plan_letters K W) 2 B ss o Rt := by
  obtain ⟨w, rfl, ok, h⟩ := c
  have := ok.nl
  refine s_ret (lc_map LR.d LR.d w.ls (by omega) (e_pf T.c_Plan T.na_Plan_letter_rows fl_ls (e_var rfl ⟨rfl, rfl, rfl⟩)) ?_ h)
  intro r hr
  refine gw_name (by simp) ⟨rfl, e_lrow T rfl ⟨rfl, rfl⟩⟩
theorem nm_map {ds : List DR} : ds.map (fun r => D.str r.n) = txs (ds.map DR.n) := by simp [txs, Function.comp_def]
theorem w_Plan_names (c : c_Plan_names K ss o Rt Xt) : Wf (r_Plan_names K W) 2 B ss o Rt := by
  obtain ⟨w, rfl, ok, h⟩ := c
  have := ok.nd
  refine s_ret (lc_map DR.d (fun r => .str r.n) w.ds (by omega) (e_pf T.c_Plan T.na_Plan_decision_rows fl_ds (e_var rfl ⟨rfl, rfl, rfl⟩)) ?_ (by rw [nm_map T]; exact h))
  intro r hr
  exact gw_name (by simp) ⟨rfl, e_ixcT rfl rfl ⟨rfl, rfl⟩⟩
theorem places_get {w : Wo} (ok : w.ok) : (∀ n, n ∈ w.ds.map DR.n → getK (places w.ds) (.inr n) = some (.int (plc w.ds n))) ∧ ∀ n, n ∉ w.ds.map DR.n → getK (places w.ds) (.inr n) = none := by
  obtain ⟨g1, g2, g3⟩ := mkK_get (f := fun i _ => D.int i) w.ds ok.dn w.ds.length (Nat.le_refl _)
  rw [List.take_length, ← places_eq] at g1 g2 g3
  refine ⟨fun n hn => ?_, g3⟩
  have hl : plc w.ds n < (w.ds.map DR.n).length := List.idxOf_lt_length_of_mem hn
  have hl' : plc w.ds n < w.ds.length := by simpa using hl
  have e : (w.ds.map DR.n)[plc w.ds n] = n := List.getElem_idxOf hl
  rw [List.getElem_map] at e
  have := g2 (plc w.ds n) _ hl' (List.getElem?_eq_getElem hl')
  rw [e] at this
  exact this
theorem w_Plan_place (c : c_Plan_place K ss o Rt Xt) (hX : ∀ ρ o C' fs, Xt C' fs o → AX B W ρ o C' fs) : Wf (r_Plan_place K W) 2 B ss o Rt := by
  obtain ⟨w, n, rfl, ok, h1, h2⟩ := c
  obtain ⟨g1, g2⟩ := places_get T ok
  unfold Wf r_Plan_place
  walk_at "st"
  walk_at "e"
  refine e_pf T.c_Plan T.na_Plan_decision_places fl_dp (e_var rfl ⟨rfl, ?_⟩)
  refine o_notInD (k := .inr n) ?_
  by_cases hn : n ∈ w.ds.map DR.n
  · rw [g1 n hn, Option.isSome_some, Bool.not_true]
    walk_at "e"
    refine e_pf T.c_Plan T.na_Plan_decision_places fl_dp (e_var rfl ⟨rfl, ?_⟩)
    walk_at "e"
    exact o_ixD (k := .inr n) (g1 n hn) (h2 hn)
  · rw [g2 n hn, Option.isSome_none, Bool.not_false]
    walk_at "e"
    refine s_raiseX ?_
    walk_at "e"
    exact ⟨[.lst [.str n]], rfl, rfl, Nat.le_of_ble_eq_true rfl, hX _ _ _ _ (h1 hn)⟩
theorem w_check_name (c : c_check_name K ss o Rt Xt) (hX : ∀ ρ o C' fs, Xt C' fs o → AX B W ρ o C' fs) : Wf (r_check_name K W) 2 B ss o Rt := by
  obtain ⟨w, n, rfl, ok, h1, h2⟩ := c
  obtain ⟨g1, g2⟩ := places_get T ok
  unfold Wf r_check_name
  walk_at "st"
  walk_at "e"
  refine e_pf T.c_Plan T.na_Plan_decision_places fl_dp (e_var rfl ⟨rfl, ?_⟩)
  refine o_notInD (k := .inr n) ?_
  by_cases hn : n ∈ w.ds.map DR.n
  · rw [g1 n hn, Option.isSome_some, Bool.not_true]
    walk_at "e"
    exact h2 hn
  · rw [g2 n hn, Option.isSome_none, Bool.not_false]
    walk_at "e"
    refine s_raiseX ?_
    walk_at "e"
    exact ⟨[.lst [.str n]], rfl, rfl, Nat.le_of_ble_eq_true rfl, hX _ _ _ _ (h1 hn)⟩
theorem w_check_moment (c : c_check_moment K ss o Rt Xt) (hX : ∀ ρ o C' fs, Xt C' fs o → AX B W ρ o C' fs) : Wf (r_check_moment K W) 2 B ss o Rt := by
  obtain ⟨w, m, rfl, h1, h2⟩ := c
  unfold Wf r_check_moment
  walk_at "st"
  have bad : ¬(0 ≤ m ∧ m ≤ w.last) → WS B (tRaiseX K "BadMoment" ["moment"] W (tCons (tVar 1) tNil)) { nx := fun x o => Rt (Sl.da D.non) o, rt := Rt } [some (.da (planD K w)), some (.da (.int m))] o := fun hb => by
    refine s_raiseX ?_
    walk_at "e"
    exact ⟨[.int m], rfl, rfl, Nat.le_of_ble_eq_true rfl, hX _ _ _ _ (h1 hb)⟩
  walk_at "e"
  refine ite_dec (fun q1 => ?_) fun q1 => ?_
  · refine e_pf T.c_Plan T.na_Plan_last_moment fl_last (e_var rfl ⟨rfl, ?_⟩)
    walk_at "e"
    refine ite_ndec (fun q2 => ?_) fun q2 => ?_
    · exact bad (fun z => q2 z.2)
    · walk_at "e"
      exact h2 q1 q2
  · walk_at "e"
    exact bad (fun z => q1 z.1)
theorem w_check_helper (c : c_check_helper K ss o Rt Xt) (hX : ∀ ρ o C' fs, Xt C' fs o → AX B W ρ o C' fs) : Wf (r_check_helper K W) 2 B ss o Rt := by
  obtain ⟨w, m, rfl, h1, h2⟩ := c
  unfold Wf r_check_helper
  walk_at "st"
  have bad : ¬(1 ≤ m ∧ m ≤ w.hc) → WS B (tRaiseX K "BadMoment" ["moment"] W (tCons (tVar 1) tNil)) { nx := fun x o => Rt (Sl.da D.non) o, rt := Rt } [some (.da (planD K w)), some (.da (.int m))] o := fun hb => by
    refine s_raiseX ?_
    walk_at "e"
    exact ⟨[.int m], rfl, rfl, Nat.le_of_ble_eq_true rfl, hX _ _ _ _ (h1 hb)⟩
  walk_at "e"
  refine ite_dec (fun q1 => ?_) fun q1 => ?_
  · refine e_pf T.c_Plan T.na_Plan_helper_count fl_hc (e_var rfl ⟨rfl, ?_⟩)
    walk_at "e"
    refine ite_ndec (fun q2 => ?_) fun q2 => ?_
    · exact bad (fun z => q2 z.2)
    · walk_at "e"
      exact h2 q1 q2
  · walk_at "e"
    exact bad (fun z => q1 z.1)
theorem all_take {p : Str → Bool} {l : List Str} {i : Nat} {x : Str} (hx : l[i]? = some x) (h : (l.take i).all p = true) (hp : p x = true) : (l.take (i + 1)).all p = true := by
  rw [List.take_add_one, hx, List.all_append, h]
  simp [hp]
theorem w_Plan_holds (c : c_Plan_holds K ss o Rt Xt) : Wf (r_Plan_holds K W) 6 B ss o Rt := by
  obtain ⟨w, c, r, yes, no, rfl, hr, h⟩ := c
  unfold Wf r_Plan_holds
  walk_at "st"
  walk_at "e"
  refine e_pf T.c_Plan T.na_Plan_course_rows fl_cs (e_var rfl ⟨rfl, ?_⟩)
  walk_at "e"
  refine o_ix (d := .lst (txs r)) (atI_map hr) ?_
  walk_at "e"
  refine s_for ?_
  walk_at "e"
  refine ⟨fun i ρ' o' => o' = o ∧ (yes.take i).all (fun w => decide (w ∈ r)) = true ∧ ∃ u, ρ' = [some (.da (planD K w)), some (.da (.int c)), some (.da (.lst (txs yes))), some (.da (.lst (txs no))), some (.da (.lst (txs r))), u], ⟨rfl, rfl, _, rfl⟩, ?_, ?_⟩
  · rintro i d ρ' o' hd ⟨rfl, ha, u, rfl⟩
    obtain ⟨x, hx, hm, rfl, hi⟩ := map_get hd
    walk_at "e"
    refine o_notInL rfl (py_txs _) (by simp [D.py, PyData.depth]) ?_
    rw [any_txs]
    walk_at "e"
    by_cases q : x ∈ r
    · rw [dt q]
      walk_at "e"
      exact ⟨rfl, all_take T hx ha (dt q), _, rfl⟩
    · rw [df q]
      walk_at "e"
      have : holdsB r yes no = false := by
        unfold holdsB
        have : yes.all (fun w => decide (w ∈ r)) = false := List.all_eq_false.mpr ⟨x, hm, by simpa using q⟩
        rw [this]
        rfl
      rw [this] at h
      exact h
  · rintro ρ' o' ⟨rfl, ha, u, rfl⟩
    rw [txs, List.length_map, List.take_length] at ha
    refine s_seq (s_for ?_)
    walk_at "e"
    refine ⟨fun i ρ' o2 => o2 = o' ∧ (no.take i).all (fun w => !decide (w ∈ r)) = true ∧ ∃ u, ρ' = [some (.da (planD K w)), some (.da (.int c)), some (.da (.lst (txs yes))), some (.da (.lst (txs no))), some (.da (.lst (txs r))), u], ⟨rfl, rfl, _, rfl⟩, ?_, ?_⟩
    · rintro i d ρ' o2 hd ⟨rfl, ha2, u, rfl⟩
      obtain ⟨x, hx, hm, rfl, hi⟩ := map_get hd
      walk_at "e"
      refine o_inL rfl (py_txs _) (by simp [D.py, PyData.depth]) ?_
      rw [any_txs]
      walk_at "e"
      by_cases q : x ∈ r
      · rw [dt q]
        walk_at "e"
        have : holdsB r yes no = false := by
          unfold holdsB
          have : no.all (fun w => !decide (w ∈ r)) = false := List.all_eq_false.mpr ⟨x, hm, by simpa using q⟩
          rw [this, Bool.and_false]
        rw [this] at h
        exact h
      · rw [df q]
        walk_at "e"
        exact ⟨rfl, all_take T hx ha2 (by rw [df q]; rfl), _, rfl⟩
    · rintro ρ' o2 ⟨rfl, ha2, u, rfl⟩
      rw [txs, List.length_map, List.take_length] at ha2
      have : holdsB r yes no = true := by
        unfold holdsB
        rw [ha, ha2]
        rfl
      rw [this] at h
      walk_at "e"
      exact h
def carrT (w : Wo) (r : List Str) (n : Nat) : List Nat := (List.range n).filter fun i => match w.ls[i]? with
  | some l => holdsB r l.yes l.no
  | none => false
omit T in
theorem carrT_succ {w : Wo} {r : List Str} {n : Nat} {l : LR} (h : w.ls[n]? = some l) : carrT w r (n + 1) = carrT w r n ++ (if holdsB r l.yes l.no = true then [n] else []) := by
  unfold carrT
  rw [List.range_succ, List.filter_append, List.filter_cons, List.filter_nil, h]
omit T in
theorem carrT_len {w : Wo} {r : List Str} {n : Nat} : (carrT w r n).length ≤ n := Nat.le_trans (List.length_filter_le _ _) (by rw [List.length_range]; exact Nat.le_refl _)
theorem w_Plan_carried (hB : B.θ.length = o.length) (c : c_Plan_carried K ss o Rt Xt) (hX : ∀ ρ o C' fs, Xt C' fs o → AX B W ρ o C' fs) : Wf (r_Plan_carried K W) 4 B ss o Rt := by
  obtain ⟨w, c, rfl, ok, h1, h2⟩ := c
  unfold Wf r_Plan_carried
  walk_at "st"
  have a8 := ok.nl
  have bad : ∀ D0 : AD, ¬(0 ≤ c ∧ c < w.cs.length) → WS B (tRaiseX K "BadCourse" ["number"] W (tCons (tVar 1) tNil)) D0 [some (.da (planD K w)), some (.da (.int c)), none, none] o := fun D0 hb => by
    refine s_raiseX ?_
    walk_at "e"
    exact ⟨[.int c], rfl, rfl, Nat.le_of_ble_eq_true rfl, hX _ _ _ _ (h1 hb)⟩
  walk_at "e"
  refine ite_dec (fun q1 => ?_) fun q1 => ?_
  rotate_left
  · walk_at "e"
    exact bad _ (fun z => q1 z.1)
  walk_at "e"
  refine e_pf T.c_Plan T.na_Plan_course_rows fl_cs (e_var rfl ⟨rfl, ?_⟩)
  walk_at "e"
  refine n_len (ss := (csD w.cs).map Sl.da) rfl ?_
  walk_at "e"
  rw [show ((csD w.cs).map Sl.da).length = w.cs.length by simp [csD]]
  refine ite_ndec (fun q2 => ?_) fun q2 => ?_
  · exact bad _ (fun z => q2 z.2)
  refine s_next ?_
  obtain ⟨n, rfl⟩ := Int.eq_ofNat_of_zero_le q1
  have hn : n < w.cs.length := by omega
  have hr := atI_nat (List.getElem?_eq_getElem hn)
  have h2 := h2 _ q1 hr
  refine s_seq (s_asg (e_lstO (a_nil ⟨Nat.zero_le _, g_name ?_⟩)))
  refine s_seq (s_range1 (a_cons (e_cb (a_cons (e_pf T.c_Plan T.na_Plan_letter_rows fl_ls (e_var rfl ⟨rfl, a_nil (n_len (ss := (w.ls.map LR.d).map Sl.da) rfl (a_nil ⟨_, rfl, by simp only [List.length_map]; omega, by simp only [List.length_map]; omega, ?_⟩))⟩))))))
  have hl0 : (((w.ls.map LR.d).map Sl.da).length : Int).toNat = w.ls.length := by simp
  rw [hl0]
  refine ⟨fun i ρ' o' => o' = o ++ [.lst ((natD (carrT w w.cs[n] i)).map Sl.da)] ∧ ∃ u, ρ' = [some (.da (planD K w)), some (.da (.int n)), some (.ow o.length), u], ⟨rfl, _, rfl⟩, ?_, ?_⟩
  · rintro i ρ' o' hi ⟨rfl, u, rfl⟩
    have hx : w.ls[i]? = some w.ls[i] := List.getElem?_eq_getElem hi
    have hx2 : atI (w.ls.map LR.d) (i : Int) = some (LR.d w.ls[i]) := atI_map (atI_nat hx)
    have hs := carrT_succ (r := w.cs[n]) hx
    walk_at "e"
    refine e_pm (w := w) rfl ?_
    walk_at "e"
    refine ⟨rfl, ?_⟩
    walk_at "e"
    refine e_pf T.c_Plan T.na_Plan_letter_rows fl_ls (e_var rfl ⟨rfl, ?_⟩)
    walk_at "e"
    refine o_ix hx2 ?_
    walk_at "e"
    refine o_ixT (d := .lst (txs w.ls[i].yes)) rfl ?_
    walk_at "e"
    refine e_pf T.c_Plan T.na_Plan_letter_rows fl_ls (e_var rfl ⟨rfl, ?_⟩)
    walk_at "e"
    refine o_ix hx2 ?_
    walk_at "e"
    refine o_ixT (d := .lst (txs w.ls[i].no)) rfl ?_
    walk_at "e"
    refine ⟨w, n, w.cs[n], w.ls[i].yes, w.ls[i].no, rfl, hr, _, rfl, ?_⟩
    refine ite_b (fun q => ?_) fun q => ?_
    · rw [if_pos q] at hs
      refine s_drop (e_app (acc := natD (carrT w w.cs[n] i)) rfl get_new (by have := carrT_len (w := w) (r := w.cs[n]) (n := i); simp [natD]; omega) ?_)
      walk_at "e"
      refine ⟨rfl, ?_, _, rfl⟩
      rw [set_new, hs]
      simp [natD]
    · rw [q, if_neg (by decide), List.append_nil] at hs
      walk_at "e"
      exact ⟨by rw [hs], _, rfl⟩
  · rintro ρ' o' ⟨rfl, u, rfl⟩
    walk_at "e"
    exact h2 o.length _ ⟨_, rfl⟩ (Nat.le_refl _) get_new
end
end K07
end AB

set_option Elab.async false
set_option linter.all false
set_option maxRecDepth 100000
set_option maxHeartbeats 4000000
set_option autoImplicit false
namespace AB
open PySem L2 PySem.Spec PyProof.Rows He
namespace K07
local macro_rules | `(tactic| walk_at "e") => `(tactic| repeat' (first
  | (with_reducible refine s_seq ?_) | (with_reducible refine s_if ?_) | (with_reducible refine s_drop ?_) | (with_reducible refine s_ret ?_) | (with_reducible refine s_next ?_) | (with_reducible refine s_asg ?_)
  | (with_reducible refine g_name ?_)
  | (with_reducible refine t_test ?_) | (with_reducible refine t_B ?_) | (with_reducible refine t_or ?_) | (with_reducible refine t_and ?_) | (with_reducible refine t_not ?_)
  | ((with_reducible apply e_var); rfl) | (with_reducible refine e_int ?_) | (with_reducible refine e_str ?_) | (with_reducible refine e_bl ?_) | (with_reducible refine e_non ?_)
  | (with_reducible refine e_raw ?_) | (with_reducible refine ite_tt ?_) | (with_reducible refine ite_ff ?_) | (with_reducible refine ite_ntt ?_) | (with_reducible refine ite_nff ?_) | (with_reducible refine n_isiS ?_) | (with_reducible refine n_isiL ?_) | (with_reducible refine n_isiT ?_)
  | ((with_reducible apply e_ixc); (focus rfl); (focus rfl)) | ((with_reducible apply e_ixcT); (focus rfl); (focus rfl))
  | (with_reducible refine e_op ?_) | (with_reducible refine e_un ?_) | (with_reducible refine e_cb ?_) | (with_reducible refine e_callA ?_) | (with_reducible refine e_andV ?_) | (with_reducible refine e_if ?_)
  | (with_reducible refine a_cons ?_) | (with_reducible refine a_nil ?_)
  | (with_reducible refine o_gt ?_) | (with_reducible refine o_lt ?_) | (with_reducible refine o_le ?_) | (with_reducible refine o_ge ?_) | (with_reducible refine o_add ?_) | (with_reducible refine o_sub ?_) | (with_reducible refine o_neg ?_)
  | (with_reducible refine e_tup ?_) | (with_reducible refine e_lst ?_) | (with_reducible refine exd0 ?_) | (with_reducible refine exd1 ?_) | (with_reducible refine exd2 ?_) | (with_reducible refine exd3 ?_) | (with_reducible refine exd4 ?_) | (with_reducible refine exd5 ?_) | (with_reducible refine exd6 ?_)
  | (with_reducible refine o_isNotI ?_) | (with_reducible refine o_isNotN ?_) | (with_reducible refine o_isNotS ?_) | (with_reducible refine o_isI ?_) | (with_reducible refine o_isN ?_) | (with_reducible refine o_isS ?_) | (with_reducible refine o_isT ?_)
  | (with_reducible refine t_yes ?_) | (with_reducible refine gw_name (by decide) ?_)
  | (with_reducible refine s_par ?_) | (with_reducible refine ex2 ?_) | (with_reducible refine o_eqI ?_) | (with_reducible refine o_neI ?_) | (with_reducible refine o_ixL (by assumption) (by assumption) ?_)
  | (with_reducible refine e_sl ?_) | (with_reducible refine l_none ?_) | (with_reducible refine l_some ?_)
  | (with_reducible refine n_list (by assumption) ?_)
  | (with_reducible refine s_par3 ?_) | (with_reducible refine o_isB ?_)
  | (with_reducible refine g_u2 ?_) | (with_reducible refine g_u3 ?_) | (with_reducible refine g_u4 ?_) | (with_reducible refine g_u5 ?_) | (with_reducible refine g_u6 ?_) | (with_reducible refine g_cons ?_) | (with_reducible refine g_nil ?_) | (with_reducible refine gw_u2 ?_) | (with_reducible refine gw_u3 ?_) | (with_reducible refine gw_u4 ?_) | (with_reducible refine gw_u5 ?_) | (with_reducible refine gw_u6 ?_) | (with_reducible refine gw_cons ?_) | (with_reducible refine gw_nil ?_)
  | (with_reducible refine e_chain ?_) | (with_reducible refine e_chain3 ?_) | (with_reducible refine e_orV ?_) | (with_reducible refine e_notV ?_)
  | (with_reducible refine ite_dec (fun h => absurd h (by decide)) (fun _ => ?_)) | (with_reducible refine ite_dec (fun _ => ?_) (fun h => absurd (by decide) h))
  | (with_reducible refine ite_dec (fun _ => ?_) (fun h => absurd (by omega) h)) | (with_reducible refine ite_dec (fun h => absurd h (by omega)) (fun _ => ?_))
  | (with_reducible refine ite_ndec (fun _ => ?_) (fun h => absurd h (by omega))) | (with_reducible refine ite_ndec (fun h => absurd (by omega) h) (fun _ => ?_))
  | (with_reducible refine Exists.intro _ (And.intro rfl ?_))))
local macro_rules | `(tactic| walk_at "st") => `(tactic| simp only [List.map_cons, List.map_nil, List.length_cons, List.length_nil, Nat.reduceAdd, Nat.reduceSub, List.replicate, List.cons_append, List.nil_append])
variable {K : PySem.W.Frag} {B : Base} {W : WX} {ss : List Sl} {o : O} {Rt : Sl → O → Prop} {Xt : Addr → List (Str × D) → O → Prop}
section
variable {mg : Str → Option Value} (T : Tx K mg)
include T
theorem w_Plan_check_rows (c : c_Plan_check_rows K ss o Rt Xt) : Wf (r_Plan_check_rows K W) 2 B ss o Rt := by
  obtain ⟨w, j, rfl, ok, hj, h⟩ := c
  have b1 := ok.h1
  have b2 := ok.t0
  have a5 := ok.nd
  unfold Wf r_Plan_check_rows
  walk_at "st"
  walk_at "e"
  refine e_pfO T.c_Plan T.na_Plan_helper_count (l := w.rows) (d := .int w.hc) rfl (e_var rfl ⟨rfl, hj, ?_⟩)
  walk_at "e"
  refine e_pfO T.c_Plan T.na_Plan_last_moment (l := w.rows) (d := .int w.last) rfl (e_var rfl ⟨rfl, hj, ?_⟩)
  walk_at "e"
  refine e_pfO T.c_Plan T.na_Plan_mishap_words (l := w.rows) (d := .lst (txs w.ms)) rfl (e_var rfl ⟨rfl, hj, ?_⟩)
  walk_at "e"
  refine ⟨w.ms, rfl, ok.mn, by have := ok.nm; omega, ok.mw, ?_⟩
  walk_at "e"
  refine e_pfO T.c_Plan T.na_Plan_course_rows (l := w.rows) (d := .lst (csD w.cs)) rfl (e_var rfl ⟨rfl, hj, ?_⟩)
  walk_at "e"
  refine e_pfO T.c_Plan T.na_Plan_mishap_words (l := w.rows) (d := .lst (txs w.ms)) rfl (e_var rfl ⟨rfl, hj, ?_⟩)
  walk_at "e"
  refine ⟨w.cs, w.ms, rfl, ok.cn, by have := ok.nc; omega, ok.c0, ok.cm, ok.mn, ok.mw, ?_⟩
  walk_at "e"
  refine e_pfO T.c_Plan T.na_Plan_decision_rows (l := w.rows) (d := .lst (w.ds.map DR.d)) rfl (e_var rfl ⟨rfl, hj, ?_⟩)
  walk_at "e"
  refine e_pfO T.c_Plan T.na_Plan_helper_count (l := w.rows) (d := .int w.hc) rfl (e_var rfl ⟨rfl, hj, ?_⟩)
  walk_at "e"
  refine e_pfO T.c_Plan T.na_Plan_last_moment (l := w.rows) (d := .int w.last) rfl (e_var rfl ⟨rfl, hj, ?_⟩)
  walk_at "e"
  refine ⟨w, rfl, ok, fun o1 f1 => ?_⟩
  have hj1 := f1.get hj
  walk_at "e"
  refine e_pfO T.c_Plan T.na_Plan_rule_rows (l := w.rows) (d := .lst (w.rs.map RR.d)) rfl (e_var rfl ⟨rfl, hj1, ?_⟩)
  refine a_cons (lc_map DR.d (fun r => .str r.n) w.ds (by omega) (e_pfO T.c_Plan T.na_Plan_decision_rows (l := w.rows) (d := .lst (w.ds.map DR.d)) rfl (e_var rfl ⟨rfl, hj1, rfl, rfl⟩)) ?_ ?_)
  · intro r hr
    exact gw_name (by simp) ⟨rfl, e_ixcT rfl rfl ⟨rfl, rfl⟩⟩
  rw [nm_map T]
  walk_at "e"
  refine e_pfO T.c_Plan T.na_Plan_mishap_words (l := w.rows) (d := .lst (txs w.ms)) rfl (e_var rfl ⟨rfl, hj1, ?_⟩)
  walk_at "e"
  refine ⟨w, rfl, ok, fun o2 f2 => ?_⟩
  have hj2 := f2.get hj1
  walk_at "e"
  refine e_pfO T.c_Plan T.na_Plan_sight_rows (l := w.rows) (d := .lst (w.ss.map SR.d)) rfl (e_var rfl ⟨rfl, hj2, ?_⟩)
  walk_at "e"
  refine e_pfO T.c_Plan T.na_Plan_decision_rows (l := w.rows) (d := .lst (w.ds.map DR.d)) rfl (e_var rfl ⟨rfl, hj2, ?_⟩)
  walk_at "e"
  refine e_pfO T.c_Plan T.na_Plan_helper_count (l := w.rows) (d := .int w.hc) rfl (e_var rfl ⟨rfl, hj2, ?_⟩)
  walk_at "e"
  refine e_pfO T.c_Plan T.na_Plan_last_moment (l := w.rows) (d := .int w.last) rfl (e_var rfl ⟨rfl, hj2, ?_⟩)
  walk_at "e"
  refine e_pfO T.c_Plan T.na_Plan_mishap_words (l := w.rows) (d := .lst (txs w.ms)) rfl (e_var rfl ⟨rfl, hj2, ?_⟩)
  walk_at "e"
  refine ⟨w, rfl, ok, fun o3 f3 => ?_⟩
  have hj3 := f3.get hj2
  walk_at "e"
  refine e_pfO T.c_Plan T.na_Plan_letter_rows (l := w.rows) (d := .lst (w.ls.map LR.d)) rfl (e_var rfl ⟨rfl, hj3, ?_⟩)
  walk_at "e"
  refine e_pfO T.c_Plan T.na_Plan_helper_count (l := w.rows) (d := .int w.hc) rfl (e_var rfl ⟨rfl, hj3, ?_⟩)
  walk_at "e"
  refine e_pfO T.c_Plan T.na_Plan_last_moment (l := w.rows) (d := .int w.last) rfl (e_var rfl ⟨rfl, hj3, ?_⟩)
  walk_at "e"
  refine e_pfO T.c_Plan T.na_Plan_mishap_words (l := w.rows) (d := .lst (txs w.ms)) rfl (e_var rfl ⟨rfl, hj3, ?_⟩)
  walk_at "e"
  refine ⟨w, rfl, ok, ?_⟩
  exact h _ ((f1.trans f2).trans f3)
theorem e_rrow {ρ : R} {P : Sl → O → Prop} {i : Nat} {r : RR} (hi : ρ[i]? = some (some (.da (RR.d r)))) (p : P (.da (RR.d r)) o) : AE B (tTup (tCons (tOp (rIxA K) (tVar i) (tC (.int 0))) (tCons (tOp (rIxA K) (tVar i) (tC (.int 1))) (tCons (tOp (rIxA K) (tVar i) (tC (.int 2))) (tCons (tCB (rListA K) (tCons (tOp (rIxA K) (tVar i) (tC (.int 3))) tNil)) (tCons (tCB (rListA K) (tCons (tOp (rIxA K) (tVar i) (tC (.int 4))) tNil)) tNil)))))) ρ o P := by
  exact e_tup (a_cons (e_ixcT hi rfl (a_cons (e_ixcT hi rfl (a_cons (e_ixcT hi rfl (a_cons (e_cb (a_cons (e_ixcT hi (d := .lst (txs r.yes)) rfl (a_nil (n_list (ds := txs r.yes) rfl (a_cons (e_cb (a_cons (e_ixcT hi (d := .lst (txs r.no)) rfl (a_nil (n_list (ds := txs r.no) rfl (a_nil (exd5 p))))))))))))))))))))
theorem w_Plan_init (hB : B.θ.length = o.length) (c : c_Plan_init K ss o Rt Xt) : Wf (r_Plan_init K W) 11 B ss o Rt := by
  obtain ⟨w, j, rfl, ok, hj, h⟩ := c
  have a3 := ok.nm
  have a4 := ok.nc
  have a5 := ok.nd
  have a6 := ok.nr
  have a7 := ok.ns
  have a8 := ok.nl
  have jl := (List.getElem?_eq_some_iff.mp hj).1
  unfold Wf r_Plan_init
  walk_at "st"
  walk_at "e"
  refine n_len (ss := (txs w.ms).map Sl.da) rfl ?_
  walk_at "e"
  refine n_len (ss := (csD w.cs).map Sl.da) rfl ?_
  walk_at "e"
  refine n_len (ss := (w.ds.map DR.d).map Sl.da) rfl ?_
  walk_at "e"
  refine n_len (ss := (w.rs.map RR.d).map Sl.da) rfl ?_
  walk_at "e"
  refine n_len (ss := (w.ss.map SR.d).map Sl.da) rfl ?_
  walk_at "e"
  refine n_len (ss := (w.ls.map LR.d).map Sl.da) rfl ?_
  walk_at "e"
  refine ⟨w, _, rfl, ok, ?_, fun o1 f1 => ?_⟩
  · simp [LL, txs, csD]
  have hj1 := f1.get hj
  have jl1 := (List.getElem?_eq_some_iff.mp hj1).1
  rw [← set_self hj1]
  refine s_seq (s_fldO (n := 0) rfl T.c_Plan T.na_Plan_helper_count jl1 (Nat.le_refl _) (by decide) (e_var rfl ⟨rfl, ?_⟩))
  refine s_seq (s_fldO (n := 1) rfl T.c_Plan T.na_Plan_last_moment jl1 (putG_len (Nat.le_refl _)) (by decide) (e_var rfl ⟨rfl, ?_⟩))
  refine s_seq (s_fldO (n := 2) rfl T.c_Plan T.na_Plan_mishap_words jl1 (putG_len (putG_len (Nat.le_refl _))) (by decide) (e_cb (a_cons (e_var rfl (a_nil (n_list (ds := txs w.ms) rfl ⟨rfl, ?_⟩))))))
  refine s_seq (s_fldO (n := 3) rfl T.c_Plan T.na_Plan_course_rows jl1 (putG_len (putG_len (putG_len (Nat.le_refl _)))) (by decide) (lc_map (fun c => .lst (txs c)) (fun c => .lst (txs c)) w.cs (by omega) (e_var rfl ⟨rfl, rfl⟩) (fun c hc => gw_name (by simp) ⟨rfl, e_cb (a_cons (e_var rfl (a_nil (n_list (ds := txs c) rfl ⟨rfl, rfl⟩))))⟩) ⟨rfl, ?_⟩))
  refine s_seq (s_fldO (n := 4) rfl T.c_Plan T.na_Plan_decision_rows jl1 (putG_len (putG_len (putG_len (putG_len (Nat.le_refl _))))) (by decide) (lc_map DR.d DR.d w.ds (by omega) (e_var rfl ⟨rfl, rfl⟩) (fun c hc => gw_name (by simp) ⟨rfl, e_cb (a_cons (e_var rfl (a_nil (n_tupT ⟨rfl, rfl⟩))))⟩) ⟨rfl, ?_⟩))
  refine s_seq (s_fldO (n := 5) rfl T.c_Plan T.na_Plan_rule_rows jl1 (putG_len (putG_len (putG_len (putG_len (putG_len (Nat.le_refl _)))))) (by decide) (lc_map RR.d RR.d w.rs (by omega) (e_var rfl ⟨rfl, rfl⟩) (fun r hr => gw_name (by simp) ⟨rfl, ?_⟩) ⟨rfl, ?_⟩))
  · exact e_rrow T rfl ⟨rfl, rfl⟩
  refine s_seq (s_fldO (n := 6) rfl T.c_Plan T.na_Plan_sight_rows jl1 (putG_len (putG_len (putG_len (putG_len (putG_len (putG_len (Nat.le_refl _))))))) (by decide) (lc_map SR.d SR.d w.ss (by omega) (e_var rfl ⟨rfl, rfl⟩) (fun c hc => gw_name (by simp) ⟨rfl, e_cb (a_cons (e_var rfl (a_nil (n_tupT ⟨rfl, rfl⟩))))⟩) ⟨rfl, ?_⟩))
  refine s_seq (s_fldO (n := 7) rfl T.c_Plan T.na_Plan_letter_rows jl1 (putG_len (putG_len (putG_len (putG_len (putG_len (putG_len (putG_len (Nat.le_refl _)))))))) (by decide) (lc_map LR.d LR.d w.ls (by omega) (e_var rfl ⟨rfl, rfl⟩) (fun r hr => gw_name (by simp) ⟨rfl, e_lrow T rfl ⟨rfl, rfl⟩⟩) ⟨rfl, ?_⟩))
  have hj2 : (o1.set j (.ins (ga K "Plan") (daF w.rows)))[j]? = some (.ins (ga K "Plan") (daF w.rows)) := List.getElem?_set_self jl1
  refine s_seq (s_drop (e_meI (e_var rfl ⟨_, hj2, rfl, a_nil ⟨w, j, rfl, ok, hj2, fun o3 f3 => ?_⟩⟩)))
  have hj3 := f3.get hj2
  have F3 : Fi j o o3 := ((((Fi.refl (j := j) o).fp f1).set (u := .ins (ga K "Plan") (daF w.rows)) (.inl rfl))).fp f3
  have jl3 := (List.getElem?_eq_some_iff.mp hj3).1
  refine s_seq (s_fld (e_dnew (e_var rfl ⟨j, _, _, rfl, ?_, T.c_Plan, T.na_Plan_decision_places, (show (daF w.rows).length < 1000 from Nat.le_of_ble_eq_true rfl), ?_⟩)))
  · rw [List.getElem?_append_left jl3]
    exact hj3
  have e9 : putG "decision_places" (.ow o3.length) (daF w.rows) = daF w.rows ++ ([("decision_places", .ow o3.length)] : List (Str × Sl)) := rfl
  rw [e9]
  have nj : o3.length ≠ j := by omega
  have hn4 : ((o3 ++ [OO.dic []]).set j (.ins (ga K "Plan") (daF w.rows ++ ([("decision_places", .ow o3.length)] : List (Str × Sl)))))[o3.length]? = some (.dic []) := by
    rw [List.getElem?_set_ne (by omega), get_new]
  have hj4 : ((o3 ++ [OO.dic []]).set j (.ins (ga K "Plan") (daF w.rows ++ ([("decision_places", .ow o3.length)] : List (Str × Sl)))))[j]? = some (.ins (ga K "Plan") (daF w.rows ++ ([("decision_places", .ow o3.length)] : List (Str × Sl)))) := List.getElem?_set_self (by rw [List.length_append]; omega)
  have F4 : Fi j o ((o3 ++ [OO.dic []]).set j (.ins (ga K "Plan") (daF w.rows ++ ([("decision_places", .ow o3.length)] : List (Str × Sl))))) := (F3.fp ⟨_, rfl⟩).set (.inl rfl)
  have l3 := F3.len
  generalize ((o3 ++ [OO.dic []]).set j (.ins (ga K "Plan") (daF w.rows ++ ([("decision_places", .ow o3.length)] : List (Str × Sl))))) = o4 at hn4 hj4 F4
  generalize o3.length = n at *
  refine s_for (e_fld (e_var rfl ⟨_, _, .da (.lst (w.ds.map DR.d)), hj4, T.c_Plan, T.na_Plan_decision_rows, rfl, _, rfl, fun i ρ' o' => Fi j o o' ∧ o'[j]? = some (.ins (ga K "Plan") (daF w.rows ++ ([("decision_places", .ow n)] : List (Str × Sl)))) ∧ o'[n]? = some (.dic (dsl (mkK DR.n (fun i _ => .int i) (w.ds.take i) []))) ∧ ∃ a b c d e f g k m u, ρ' = [some (.ow j), a, b, c, d, e, f, g, k, m, u], ⟨F4, hj4, hn4, _, _, _, _, _, _, _, _, _, _, rfl⟩, ?_, ?_⟩))
  · rintro i d ρ' o' hd ⟨F5, hj5, hn5, a, b, c, d', e, f, g, k, m, u, rfl⟩
    obtain ⟨r, hx, hm, rfl, hi⟩ := map_get hd
    obtain ⟨g1, g2, g3⟩ := mkK_get (f := fun i _ => D.int i) w.ds ok.dn i (by omega)
    refine g_name (s_dput (tv := tC .non) ?_)
    refine e_cb (a_cons (e_fld (e_var rfl ⟨_, _, .ow n, hj5, T.c_Plan, T.na_Plan_decision_places, rfl, a_nil (n_lenDO hn5 ?_)⟩)))
    refine e_fld (e_var rfl ⟨_, _, .ow n, hj5, T.c_Plan, T.na_Plan_decision_places, rfl, ?_⟩)
    refine e_ixcT rfl rfl ?_
    refine ⟨n, _, .inr r.n, rfl, rfl, hn5, by rw [dsl_len, g1, sizeLine_eq]; omega, F5.set (.inr (by omega)), by rw [List.getElem?_set_ne nj]; exact hj5, ?_, _, _, _, _, _, _, _, _, _, _, rfl⟩
    rw [List.getElem?_set_self (List.getElem?_eq_some_iff.mp hn5).1, dsl_len, putS_dsl, List.take_add_one, hx, mkK_app]
    rfl
  · rintro ρ' o' ⟨F5, hj5, hn5, _⟩
    rw [List.length_map, List.take_length, ← places_eq] at hn5
    exact h n o' F5 (by omega) hj5 hn5
theorem w__law_plan (hB : B.θ.length = o.length) (c : c__law_plan K ss o Rt Xt) : Wf (r__law_plan K W) 1 B ss o Rt := by
  obtain ⟨w, rfl, ok, h⟩ := c
  unfold Wf r__law_plan
  show WS B _ _ [some (.da (worldD w))] o
  refine s_ret (e_frzI "decision_places" (e_mkI ?_))
  walk_at "e"
  refine ⟨w, o.length, rfl, ok, get_new, fun n o' F hn hj hp => ⟨rfl, ?_⟩⟩
  rw [List.length_append] at hn
  have hn' : o.length + 1 ≤ n := hn
  refine ⟨o.length, n, _, _, _, .dic (places w.ds), w.fields, rfl, by omega, by omega, by omega, hj, rfl, hp, Frz.dic _, rfl, h _ ?_⟩
  refine Fp.set (Fp.set ?_ (by omega)) (Nat.le_refl _)
  refine ⟨o'.drop o.length, ?_⟩
  have e : o'.take o.length = o := by
    apply List.ext_getElem?
    intro i
    rw [List.getElem?_take]
    split
    · rename_i hi
      rw [F.get i (by rw [List.length_append]; omega) (by omega), List.getElem?_append_left hi]
    · rename_i hi
      rw [List.getElem?_eq_none (by omega)]
  rw [← e]
  rw [List.length_take_of_le (by have := F.len; rw [List.length_append] at this; omega)]
  rw [List.take_append_drop]
end
end K07
end AB

set_option Elab.async false
set_option linter.all false
set_option maxRecDepth 100000
set_option maxHeartbeats 4000000
set_option autoImplicit false
namespace AB
open PySem L2 PySem.Spec PyProof.Rows He
namespace K07
local macro_rules | `(tactic| walk_at "e") => `(tactic| repeat' (first
  | (with_reducible refine s_seq ?_) | (with_reducible refine s_if ?_) | (with_reducible refine s_drop ?_) | (with_reducible refine s_ret ?_) | (with_reducible refine s_next ?_) | (with_reducible refine s_asg ?_)
  | (with_reducible refine g_name ?_)
  | (with_reducible refine t_test ?_) | (with_reducible refine t_B ?_) | (with_reducible refine t_or ?_) | (with_reducible refine t_and ?_) | (with_reducible refine t_not ?_)
  | ((with_reducible apply e_var); rfl) | (with_reducible refine e_int ?_) | (with_reducible refine e_str ?_) | (with_reducible refine e_bl ?_) | (with_reducible refine e_non ?_)
  | (with_reducible refine e_raw ?_) | (with_reducible refine ite_tt ?_) | (with_reducible refine ite_ff ?_) | (with_reducible refine ite_ntt ?_) | (with_reducible refine ite_nff ?_) | (with_reducible refine n_isiS ?_) | (with_reducible refine n_isiL ?_) | (with_reducible refine n_isiT ?_)
  | ((with_reducible apply e_ixc); (focus rfl); (focus rfl)) | ((with_reducible apply e_ixcT); (focus rfl); (focus rfl))
  | (with_reducible refine e_op ?_) | (with_reducible refine e_un ?_) | (with_reducible refine e_cb ?_) | (with_reducible refine e_callA ?_) | (with_reducible refine e_andV ?_) | (with_reducible refine e_if ?_)
  | (with_reducible refine a_cons ?_) | (with_reducible refine a_nil ?_)
  | (with_reducible refine o_gt ?_) | (with_reducible refine o_lt ?_) | (with_reducible refine o_le ?_) | (with_reducible refine o_ge ?_) | (with_reducible refine o_add ?_) | (with_reducible refine o_sub ?_) | (with_reducible refine o_neg ?_)
  | (with_reducible refine e_tup ?_) | (with_reducible refine e_lst ?_) | (with_reducible refine exd0 ?_) | (with_reducible refine exd1 ?_) | (with_reducible refine exd2 ?_) | (with_reducible refine exd3 ?_) | (with_reducible refine exd4 ?_) | (with_reducible refine exd5 ?_) | (with_reducible refine exd6 ?_)
  | (with_reducible refine o_isNotI ?_) | (with_reducible refine o_isNotN ?_) | (with_reducible refine o_isNotS ?_) | (with_reducible refine o_isI ?_) | (with_reducible refine o_isN ?_) | (with_reducible refine o_isS ?_) | (with_reducible refine o_isT ?_)
  | (with_reducible refine t_yes ?_) | (with_reducible refine gw_name (by decide) ?_)
  | (with_reducible refine s_par ?_) | (with_reducible refine ex2 ?_) | (with_reducible refine o_eqI ?_) | (with_reducible refine o_neI ?_) | (with_reducible refine o_ixL (by assumption) (by assumption) ?_)
  | (with_reducible refine e_sl ?_) | (with_reducible refine l_none ?_) | (with_reducible refine l_some ?_)
  | (with_reducible refine n_list (by assumption) ?_)
  | (with_reducible refine s_par3 ?_) | (with_reducible refine o_isB ?_)
  | (with_reducible refine g_u2 ?_) | (with_reducible refine g_u3 ?_) | (with_reducible refine g_u4 ?_) | (with_reducible refine g_u5 ?_) | (with_reducible refine g_u6 ?_) | (with_reducible refine g_cons ?_) | (with_reducible refine g_nil ?_) | (with_reducible refine gw_u2 ?_) | (with_reducible refine gw_u3 ?_) | (with_reducible refine gw_u4 ?_) | (with_reducible refine gw_u5 ?_) | (with_reducible refine gw_u6 ?_) | (with_reducible refine gw_cons ?_) | (with_reducible refine gw_nil ?_)
  | (with_reducible refine e_chain ?_) | (with_reducible refine e_chain3 ?_) | (with_reducible refine e_orV ?_) | (with_reducible refine e_notV ?_)
  | (with_reducible refine ite_dec (fun h => absurd h (by decide)) (fun _ => ?_)) | (with_reducible refine ite_dec (fun _ => ?_) (fun h => absurd (by decide) h))
  | (with_reducible refine ite_dec (fun _ => ?_) (fun h => absurd (by omega) h)) | (with_reducible refine ite_dec (fun h => absurd h (by omega)) (fun _ => ?_))
  | (with_reducible refine ite_ndec (fun _ => ?_) (fun h => absurd h (by omega))) | (with_reducible refine ite_ndec (fun h => absurd (by omega) h) (fun _ => ?_))
  | (with_reducible refine Exists.intro _ (And.intro rfl ?_))))
local macro_rules | `(tactic| walk_at "st") => `(tactic| simp only [List.map_cons, List.map_nil, List.length_cons, List.length_nil, Nat.reduceAdd, Nat.reduceSub, List.replicate, List.cons_append, List.nil_append])
variable {K : PySem.W.Frag} {B : Base} {W : WX} {ss : List Sl} {o : O} {Rt : Sl → O → Prop} {Xt : Addr → List (Str × D) → O → Prop}
theorem w__law_word (c : c__law_word K ss o Rt Xt) : Wf (r__law_word K W) 6 B ss o Rt := by
  obtain ⟨j, x, taken, rfl, pu, hxj, hx, htk, h⟩ := c
  unfold Wf r__law_word
  walk_at "st"
  walk_at "e"
  refine draw_in (by decide) (by decide) pu fun r o1 r0 r1 f1 => ?_
  obtain ⟨c0, hc0, hF⟩ := sig_at sigF r0 r1 (by decide)
  refine o_ixS (sizeBig (by rw [sigLen]; decide)) hc0 ?_
  have b0 : isB ⟨#[c0]⟩ := ⟨by simpa using hF, by simp [FR hF]⟩
  walk_at "e"
  refine s_range1 ?_
  have loop : ∀ (n : Int) (o2 : O), 0 ≤ n → n ≤ 11 → Fj j o o2 → -(2 ^ 62) ≤ n ∧ n < 2 ^ 62 ∧ ∃ Pv : Nat → R → O → Prop, Pv 0 [some (.ow j), some x, some (.da (.str sigs)), some (.da (.str ⟨#[c0]⟩)), none, none] o2 ∧
      (∀ (i : Nat) ρ' o', i < n.toNat → Pv i ρ' o' → AG B (gName 4) (.da (.int (i : Int))) ρ' o' fun ρ2 o2 => WS B (tAsg (tOp rAddA (tVar 3) (tOp (rIxA K) (tVar 2) (tCallS (SpC (c__law_draw K)) (WE W) (tCons (tVar 0) (tCons (tC (.int 37)) tNil))))) (gName 3)) { nx := Pv (i + 1), rt := Rt, bk := fun _ _ => False, ct := Pv (i + 1) } ρ2 o2) ∧
      ∀ ρ' o', Pv n.toNat ρ' o' → ∃ s, isB s ∧ 1 ≤ s.length ∧ s.length ≤ 12 ∧ Fj j o o' ∧ ∃ u, ρ' = [some (.ow j), some x, some (.da (.str sigs)), some (.da (.str s)), u, none] := by
    intro n o2 n0 n1 f2
    refine ⟨by omega, by omega, fun i ρ' o' => i ≤ n.toNat ∧ Fj j o o' ∧ ∃ s u, isB s ∧ s.length = i + 1 ∧ ρ' = [some (.ow j), some x, some (.da (.str sigs)), some (.da (.str s)), u, none], ⟨by omega, f2, _, _, b0, rfl, rfl⟩, ?_, ?_⟩
    · rintro i ρ' o' hi ⟨_, f3, s, u, hs, hl, rfl⟩
      walk_at "e"
      refine draw_in (by decide) (by decide) f3.pu fun r o4 r0 r1 f4 => ?_
      obtain ⟨c1, hc1, hR⟩ := sig_at sigR r0 r1 (by decide)
      refine o_ixS (sizeBig (by rw [sigLen]; decide)) hc1 ?_
      refine o_addS (sizeBig (by rw [one_len]; omega)) ?_
      walk_at "e"
      exact ⟨by omega, f3.trans f4, _, _, hs.app (by simp [hR]), by rw [slen_app, hl, one_len], rfl⟩
    · rintro ρ' o' ⟨_, f3, s, u, hs, hl, rfl⟩
      exact ⟨s, hs, by omega, by omega, f3, u, rfl⟩
  have rest : ∀ ρ' o', (∃ s, isB s ∧ 1 ≤ s.length ∧ s.length ≤ 12 ∧ Fj j o o' ∧ ∃ u, ρ' = [some (.ow j), some x, some (.da (.str sigs)), some (.da (.str s)), u, none]) →
      WS B (tSeq (tAsg (tVar 3) (gName 5)) (tSeq (tFor (iRng1 (tCons (tC (.int 60)) tNil)) (gName 4) (tSeq (tIfS (tAnd (tTest (tOp (rNotInA K) (tVar 5) (tVar 1))) (tTest (tOp (rNotInA K) (tVar 5) (tLst (tCons (tC (.str "if")) (tCons (tC (.str "unless")) tNil)))))) (tRet (tVar 5)) tNext)
        (tAsg (tOp rAddA (tSl (rSlW K) (tVar 3) tNoPart (tPart (tC (.int 8)))) (tCB rStrI (tCons (tVar 4) tNil))) (gName 5)))) (tRet (tVar 5)))) { nx := fun _ o => Rt (.da .non) o, rt := Rt } ρ' o' := by
    rintro ρ' o' ⟨s, hs, l1, l2, f3, u, rfl⟩
    walk_at "e"
    refine s_range1 ?_
    walk_at "e"
    have cl : (cutS s none (some 8)).length ≤ 8 := by rw [len_toList, cut8, List.length_take]; omega
    have cl1 : 1 ≤ (cutS s none (some 8)).length := by rw [len_toList, cut8, List.length_take, ← len_toList]; omega
    refine ⟨by decide, by decide, fun i ρ'' o'' => o'' = o' ∧ i ≤ 60 ∧ ∃ w u, isB w ∧ 1 ≤ w.length ∧ w.length ≤ 12 ∧ (∀ t, t + 1 < i → cand s t ∈ taken) ∧ (0 < i → w = cand s (i - 1)) ∧ ρ'' = [some (.ow j), some x, some (.da (.str sigs)), some (.da (.str s)), u, some (.da (.str w))], ⟨rfl, by decide, s, u, hs, l1, l2, (fun t z => absurd z (by omega)), (fun z => absurd z (by omega)), rfl⟩, ?_, ?_⟩
    · rintro i ρ'' o'' hi ⟨rfl, _, w, u', hw, w1, w2, hc, hwc, rfl⟩
      have hi60 : i < 60 := hi
      have hx3 := LL.fj hx hxj f3
      have next : (0 < i → w ∈ taken) → WS B (tAsg (tOp rAddA (tSl (rSlW K) (tVar 3) tNoPart (tPart (tC (.int 8)))) (tCB rStrI (tCons (tVar 4) tNil))) (gName 5)) { nx := fun ρ2 o2 => o2 = o'' ∧ i + 1 ≤ 60 ∧ ∃ w u, isB w ∧ 1 ≤ w.length ∧ w.length ≤ 12 ∧ (∀ t, t + 1 < i + 1 → cand s t ∈ taken) ∧ (0 < i + 1 → w = cand s (i + 1 - 1)) ∧ ρ2 = [some (.ow j), some x, some (.da (.str sigs)), some (.da (.str s)), u, some (.da (.str w))], rt := Rt }
          [some (.ow j), some x, some (.da (.str sigs)), some (.da (.str s)), some (.da (.int i)), some (.da (.str w))] o'' := by
        intro hin
        have nl := num60 i hi60
        walk_at "e"
        refine wl_str (sizeBig (by omega)) ?_
        walk_at "e"
        refine n_str (log_small (by omega)) ?_
        refine o_addS (sizeBig (by omega)) ?_
        walk_at "e"
        refine ⟨rfl, by omega, _, _, hs.cut.app (numR i hi60), by rw [slen_app]; omega, by rw [slen_app]; omega, fun t ht => ?_, fun _ => rfl, rfl⟩
        by_cases q : t + 1 < i
        · exact hc t q
        · have e : t = i - 1 := by omega
          rw [e, ← hwc (by omega)]
          exact hin (by omega)
      walk_at "e"
      refine o_notInLL hx3 rfl (py_txs _) (by simp [D.py, PyData.depth]) ?_
      rw [any_txs]
      by_cases hin : w ∈ taken
      · rw [dt hin]
        refine ⟨_, rfl, ite_ff (s_next ?_)⟩
        exact (next fun _ => hin).mono (fun _ _ q => q) (fun _ _ q => q) (fun _ _ q => False.elim q) (fun _ _ q => False.elim q)
      · rw [df hin]
        walk_at "e"
        refine o_notInL rfl rfl (by simp [D.py, PyData.depth]) ?_
        rw [notKw]
        cases hk : (decide (w = ("if" : Str)) || decide (w = ("unless" : Str))) with
        | false =>
          walk_at "e"
          exact h _ _ (hw.w w1 w2 hk) hin f3
        | true =>
          refine ⟨_, rfl, ite_ff (s_next ?_)⟩
          refine (next fun hp => ?_).mono (fun _ _ q => q) (fun _ _ q => q) (fun _ _ q => False.elim q) (fun _ _ q => False.elim q)
          rw [hwc hp, cand_kw (by omega)] at hk
          cases hk
    · rintro ρ'' o'' ⟨rfl, _, w, u', hw, w1, w2, hc, _, rfl⟩
      exfalso
      have := nd_len (cands_nd s) (l2 := taken) fun y hy => by
        obtain ⟨t, ht, rfl⟩ := List.mem_map.mp hy
        rw [List.mem_range] at ht
        exact hc t (by show t + 1 < 60; omega)
      rw [List.length_map, List.length_range] at this
      omega
  walk_at "e"
  refine draw_in (by decide) (by decide) f1.pu fun r2 o2 s0 s1 f2 => ?_
  walk_at "e"
  refine ite_dec (fun h1 => ?_) fun h1 => ?_
  · walk_at "e"
    obtain ⟨b1, b2, Pv, q0, q1, q2⟩ := loop 11 o2 (by decide) (by decide) (f1.trans f2)
    refine ⟨b1, b2, Pv, q0, fun i ρ' o' hi hp => ?_, fun ρ' o' hp => rest ρ' o' (q2 ρ' o' hp)⟩
    intro F H θ σ v k rr Q q
    refine q1 i ρ' o' hi hp F H θ σ v k rr Q fun F' H' θ' σ' ρ'' o'' t k' w => q F' H' θ' σ' ρ'' o'' t k' (w.mono (fun _ _ q => q) (fun _ _ q => q) (fun _ _ q => q.elim) (fun _ _ q => q))
  · walk_at "e"
    refine draw_in (by decide) (by decide) f2.pu fun r3 o3 t0 t1 f3 => ?_
    walk_at "e"
    obtain ⟨b1, b2, Pv, q0, q1, q2⟩ := loop r3 o3 (by omega) (by omega) ((f1.trans f2).trans f3)
    refine ⟨b1, b2, Pv, q0, fun i ρ' o' hi hp => ?_, fun ρ' o' hp => rest ρ' o' (q2 ρ' o' hp)⟩
    intro F H θ σ v k rr Q q
    refine q1 i ρ' o' hi hp F H θ σ v k rr Q fun F' H' θ' σ' ρ'' o'' t k' w => q F' H' θ' σ' ρ'' o'' t k' (w.mono (fun _ _ q => q) (fun _ _ q => q) (fun _ _ q => q.elim) (fun _ _ q => q))
theorem w__law_words (hB : B.θ.length = o.length) (c : c__law_words K ss o Rt Xt) : Wf (r__law_words K W) 4 B ss o Rt := by
  obtain ⟨j, n, rfl, pu, n0, n1, h⟩ := c
  have jl := pu.lt
  unfold Wf r__law_words
  walk_at "st"
  refine s_seq (s_asg (e_lstO (a_nil ⟨Nat.zero_le _, g_name ?_⟩)))
  refine s_seq (s_range1 ?_)
  walk_at "e"
  refine ⟨by omega, by omega, fun i ρ' o' => i ≤ n.toNat ∧ Fj j o o' ∧ ∃ (ws : List Str) (u : Option Sl), ws.length = i ∧ (∀ w, w ∈ ws → isW w = true) ∧ ws.Nodup ∧ o'[o.length]? = some (.lst (sls ws)) ∧ ρ' = [some (.ow j), some (.da (.int n)), some (.ow o.length), u], ⟨by omega, Fj.app pu _, [], _, rfl, (fun w hw => by cases hw), List.nodup_nil, get_new, rfl⟩, ?_, ?_⟩
  · rintro i ρ' o' hi ⟨_, f1, ws, u, hl, hw, hnd, ho, rfl⟩
    refine g_name (s_drop (e_app2 (acc := txs ws) rfl ho (by simp [txs]; omega) ?_))
    walk_at "e"
    refine ⟨j, .ow o.length, ws, rfl, f1.pu, (fun z => by cases z; omega), ho, by omega, fun w o2 hw2 hnw f2 => ?_⟩
    have ho2 := f2.at ho (by omega)
    walk_at "e"
    refine ⟨ho2, by omega, (f1.trans f2).set jl (Nat.le_refl _), ws ++ [w], _, by simp [hl], fun w' hw' => ?_, ?_, ?_, rfl⟩
    · rcases List.mem_append.mp hw' with q | q
      · exact hw _ q
      · rw [List.mem_singleton.mp q]; exact hw2
    · rw [List.nodup_append]
      exact ⟨hnd, by simp, fun a ha b hb e => hnw (by rw [← List.mem_singleton.mp hb, ← e]; exact ha)⟩
    · rw [List.getElem?_set_self (List.getElem?_eq_some_iff.mp ho2).1, txs_app]
  · rintro ρ' o' ⟨_, f1, ws, u, hl, hw, hnd, ho, rfl⟩
    refine s_ret (e_frz (e_var rfl ?_))
    exact ⟨o.length, _, _, rfl, by omega, ho, .lst _, h ws _ hw hnd hl (f1.set jl (Nat.le_refl _))⟩
theorem sub_take {l s : List Str} {i : Nat} {m : Str} (h : s.Sublist (l.take i)) (hm : l[i]? = some m) : (s ++ [m]).Sublist (l.take (i + 1)) := by
  rw [List.take_add_one, hm]
  exact h.append (List.Sublist.refl _)
theorem sub_le {l s : List Str} {i : Nat} (h : s.Sublist (l.take i)) : s.Sublist (l.take (i + 1)) := h.trans (List.take_sublist_take_left (by omega))
theorem w__law_sides (hB : B.θ.length = o.length) (c : c__law_sides K ss o Rt Xt) : Wf (r__law_sides K W) 6 B ss o Rt := by
  obtain ⟨j, l, rfl, pu, ll, nd, h⟩ := c
  have jl := pu.lt
  unfold Wf r__law_sides
  walk_at "st"
  refine s_seq (s_asg (e_lstO (a_nil ⟨Nat.zero_le _, g_name ?_⟩)))
  refine s_seq (s_asg (e_lstO (a_nil ⟨Nat.zero_le _, g_name ?_⟩)))
  rw [List.append_assoc]
  refine s_seq (s_for ?_)
  walk_at "e"
  have tl : (txs l).length = l.length := by simp [txs]
  refine ⟨fun i ρ' o' => i ≤ l.length ∧ Fj j o o' ∧ ∃ (yes no : List Str) (u w : Option Sl), Sd (l.take i) yes no ∧ o'[o.length]? = some (.lst (sls yes)) ∧ o'[o.length + 1]? = some (.lst (sls no)) ∧ ρ' = [some (.ow j), some (.da (.lst (txs l))), some (.ow o.length), some (.ow (o.length + 1)), u, w],
    ⟨by omega, Fj.app pu _, [], [], _, _, ⟨List.nil_sublist _, List.nil_sublist _, fun w hw => by cases hw⟩, get_two, get_two', by rw [List.length_append]; rfl⟩, ?_, ?_⟩
  · rintro i d ρ' o' hd ⟨_, f1, yes, no, u, w, sd, hy, hn, rfl⟩
    obtain ⟨m, hm, _, rfl, hi⟩ := map_get hd
    have nm := nd_take nd hm
    have ly := sd.y.length_le
    have ln := sd.n.length_le
    rw [List.length_take] at ly ln
    have ny : m ∉ yes := fun z => nm (sd.y.subset z)
    have nn : m ∉ no := fun z => nm (sd.n.subset z)
    walk_at "e"
    refine draw_in (by decide) (by decide) f1.pu fun r o2 r0 r1 f2 => ?_
    have f12 := f1.trans f2
    have hy2 := f2.at hy (by omega)
    have hn2 := f2.at hn (by omega)
    refine g_name ?_
    refine s_cut (fun ρ2 o3 => Fj j o o3 ∧ ∃ (yes' : List Str), (r ≠ 0 → yes' = yes) ∧ yes'.Sublist (l.take (i + 1)) ∧ (∀ w, w ∈ yes' → w ∉ no) ∧ o3[o.length]? = some (.lst (sls yes')) ∧ o3[o.length + 1]? = some (.lst (sls no)) ∧ ρ2 = [some (.ow j), some (.da (.lst (txs l))), some (.ow o.length), some (.ow (o.length + 1)), some (.da (.str m)), some (.da (.int r))]) ?_ ?_
    · walk_at "e"
      refine ite_dec (fun h1 => ?_) fun h1 => ?_
      · refine s_drop (e_app (acc := txs yes) rfl hy2 (by simp [txs]; omega) ?_)
        walk_at "e"
        refine ⟨rfl, f12.set jl (Nat.le_refl _), yes ++ [m], fun z => absurd h1 z, sub_take sd.y hm, fun w hw => ?_, ?_, ?_, rfl⟩
        · rcases List.mem_append.mp hw with q | q
          · exact sd.d w q
          · rw [List.mem_singleton.mp q]; exact nn
        · rw [List.getElem?_set_self (List.getElem?_eq_some_iff.mp hy2).1, txs_app]
        · rw [List.getElem?_set_ne (by omega)]; exact hn2
      · walk_at "e"
        exact ⟨f12, yes, fun _ => rfl, sub_le sd.y, sd.d, hy2, hn2, rfl⟩
    · rintro ρ2 o3 ⟨f3, yes', hyy, ys, yd, hy3, hn3, rfl⟩
      walk_at "e"
      refine ite_dec (fun h1 => ?_) fun h1 => ?_
      · have ey := hyy (by omega)
        subst ey
        refine s_drop (e_app (acc := txs no) rfl hn3 (by simp [txs]; omega) ?_)
        walk_at "e"
        refine ⟨rfl, by omega, f3.set jl (by omega), yes', no ++ [m], _, _, ⟨ys, sub_take sd.n hm, fun w hw z => ?_⟩, ?_, ?_, rfl⟩
        · rcases List.mem_append.mp z with q | q
          · exact yd w hw q
          · rw [List.mem_singleton.mp q] at hw; exact ny hw
        · rw [List.getElem?_set_ne (by omega)]; exact hy3
        · rw [List.getElem?_set_self (List.getElem?_eq_some_iff.mp hn3).1, txs_app]
      · walk_at "e"
        exact ⟨by omega, f3, yes', no, _, _, ⟨ys, sub_le sd.n, yd⟩, hy3, hn3, rfl⟩
  · rintro ρ' o' ⟨_, f1, yes, no, u, w, sd, hy, hn, rfl⟩
    refine s_frz 2 (j := o.length) rfl (by omega) hy (.lst _) ?_
    refine s_frz 3 (j := o.length + 1) rfl (by omega) (by rw [List.getElem?_set_ne (by omega)]; exact hn) (.lst _) ?_
    walk_at "e"
    rw [tl, List.take_length] at sd
    exact h yes no _ sd ((f1.set jl (Nat.le_refl _)).set jl (by omega))
theorem w__law_letters (hB : B.θ.length = o.length) (c : c__law_letters K ss o Rt Xt) : Wf (r__law_letters K W) 12 B ss o Rt := by
  obtain ⟨j, hc, last, ms, n, rfl, pu, c2, c8, l1, l24, mn, ml, n0, n1, h⟩ := c
  have jl := pu.lt
  unfold Wf r__law_letters
  walk_at "st"
  refine s_seq (s_asg (e_lstO (a_nil ⟨Nat.zero_le _, g_name ?_⟩)))
  refine s_seq (s_range1 ?_)
  walk_at "e"
  refine ⟨by omega, by omega, fun i ρ' o' => i ≤ n.toNat ∧ Fj j o o' ∧ ∃ (ls : List LR) (a b c d e f : Option Sl), ls.length = i ∧ (∀ r, r ∈ ls → lrOk hc last ms r) ∧ o'[o.length]? = some (.lst ((ls.map LR.d).map Sl.da)) ∧ ρ' = [some (.ow j), some (.da (.int hc)), some (.da (.int last)), some (.da (.lst (txs ms))), some (.da (.int n)), some (.ow o.length), a, b, c, d, e, f],
    ⟨by omega, Fj.app pu _, [], _, _, _, _, _, _, rfl, (fun r hr => by cases hr), get_new, rfl⟩, ?_, ?_⟩
  · rintro i ρ' o' hi ⟨_, f1, ls, a, b, c, d, e, f, hl, hok, ho, rfl⟩
    walk_at "e"
    refine draw_in (by omega) (by omega) f1.pu fun x1 o1 x10 x11 g1 => ?_
    walk_at "e"
    refine draw_in (by omega) (by omega) g1.pu fun x2 o2 x20 x21 g2 => ?_
    obtain ⟨m1, m2, m3⟩ := mod_ne x10 x11 x20 x21
    walk_at "e"
    refine n_int ?_
    walk_at "e"
    refine o_mod (by omega) ?_
    generalize (1 + x1 + x2) % hc = q at m1 m2 m3
    walk_at "e"
    refine draw_in (by omega) (by omega) g2.pu fun x3 o3 x30 x31 g3 => ?_
    walk_at "e"
    refine n_min2' fun mm k1 k2 k3 => ?_
    walk_at "e"
    refine draw_in (by omega) (by omega) g3.pu fun x4 o4 x40 x41 g4 => ?_
    walk_at "e"
    refine draw_in (by omega) (by omega) g4.pu fun x5 o5 x50 x51 g5 => ?_
    have F5 := ((((f1.trans g1).trans g2).trans g3).trans g4).trans g5
    have ho5 := g5.at (g4.at (g3.at (g2.at (g1.at ho (by omega)) (by omega)) (by omega)) (by omega)) (by omega)
    have rest : ∀ (yes no : List Str) (o6 : O), Sd ms yes no → Fj j o o6 → o6[o.length]? = some (.lst ((ls.map LR.d).map Sl.da)) → WS B (tDrop (tBM K "list" rAppend (tVar 5) (tCons (tTup (tCons (tVar 7) (tCons (tVar 9) (tCons (tVar 8) (tCons (tVar 10) (tCons (tOp (rIxA K) (tVar 11) (tC (.int 0))) (tCons (tOp (rIxA K) (tVar 11) (tC (.int 1))) tNil))))))) tNil)))
        { nx := fun ρ' o' => i + 1 ≤ n.toNat ∧ Fj j o o' ∧ ∃ (ls : List LR) (a b c d e f : Option Sl), ls.length = i + 1 ∧ (∀ r, r ∈ ls → lrOk hc last ms r) ∧ o'[o.length]? = some (.lst ((ls.map LR.d).map Sl.da)) ∧ ρ' = [some (.ow j), some (.da (.int hc)), some (.da (.int last)), some (.da (.lst (txs ms))), some (.da (.int n)), some (.ow o.length), a, b, c, d, e, f], rt := Rt }
        [some (.ow j), some (.da (.int hc)), some (.da (.int last)), some (.da (.lst (txs ms))), some (.da (.int n)), some (.ow o.length), some (.da (.int i)), some (.da (.int (1 + x1))), some (.da (.int (q + 1))), some (.da (.int x3)), some (.da (.int (x3 + 1 + x4))), some (.da (.lst [.lst (txs yes), .lst (txs no)]))] o6 := by
      intro yes no o6 sd f6 ho6
      refine s_drop (e_app (acc := ls.map LR.d) rfl ho6 (by simp; omega) ?_)
      walk_at "e"
      refine ⟨rfl, by omega, f6.set jl (Nat.le_refl _), ls ++ [⟨1 + x1, x3, q + 1, x3 + 1 + x4, yes, no⟩], _, _, _, _, _, _, by simp [hl], fun r hr => ?_, ?_, rfl⟩
      · rcases List.mem_append.mp hr with z | z
        · exact hok r z
        · rw [List.mem_singleton.mp z]
          exact ⟨by show 1 ≤ 1 + x1; omega, by show 1 + x1 ≤ hc; omega, by show 1 ≤ q + 1; omega, by show q + 1 ≤ hc; omega, by show 1 + x1 ≠ q + 1; omega, x30, by show x3 < x3 + 1 + x4; omega, by show x3 + 1 + x4 ≤ last; omega, sd⟩
      · rw [List.getElem?_set_self (List.getElem?_eq_some_iff.mp ho6).1]
        simp
    walk_at "e"
    refine ite_dec (fun h1 => ?_) fun h1 => ?_
    · walk_at "e"
      refine ⟨j, ms, rfl, F5.pu, by omega, mn, fun yes no o6 sd g6 => ?_⟩
      refine g_name ?_
      exact (rest yes no o6 sd (F5.trans g6) (g6.at ho5 (by omega))).mono (fun _ _ q => q) (fun _ _ q => q) (fun _ _ q => False.elim q) (fun _ _ q => False.elim q)
    · refine e_lst (a_cons (e_lst (a_nil (exd0 ?_))))
      refine a_cons (e_lst (a_nil (exd0 ?_)))
      refine a_nil (exd2 ?_)
      refine g_name ?_
      exact (rest [] [] o5 ⟨List.nil_sublist _, List.nil_sublist _, fun w hw => by cases hw⟩ F5 ho5).mono (fun _ _ q => q) (fun _ _ q => q) (fun _ _ q => False.elim q) (fun _ _ q => False.elim q)
  · rintro ρ' o' ⟨_, f1, ls, a, b, c, d, e, f, hl, hok, ho, rfl⟩
    refine s_ret (e_frz (e_var rfl ?_))
    exact ⟨o.length, _, _, rfl, by omega, ho, .lst _, h ls _ hok hl (f1.set jl (Nat.le_refl _))⟩
end K07
end AB

set_option Elab.async false
set_option linter.all false
set_option maxRecDepth 100000
set_option maxHeartbeats 4000000
set_option autoImplicit false
namespace AB
open PySem L2 PySem.Spec PyProof.Rows He
namespace K07
local macro_rules | `(tactic| walk_at "e") => `(tactic| repeat' (first
  | (with_reducible refine s_seq ?_) | (with_reducible refine s_if ?_) | (with_reducible refine s_drop ?_) | (with_reducible refine s_ret ?_) | (with_reducible refine s_next ?_) | (with_reducible refine s_asg ?_)
  | (with_reducible refine g_name ?_)
  | (with_reducible refine t_test ?_) | (with_reducible refine t_B ?_) | (with_reducible refine t_or ?_) | (with_reducible refine t_and ?_) | (with_reducible refine t_not ?_)
  | ((with_reducible apply e_var); rfl) | (with_reducible refine e_int ?_) | (with_reducible refine e_str ?_) | (with_reducible refine e_bl ?_) | (with_reducible refine e_non ?_)
  | (with_reducible refine e_raw ?_) | (with_reducible refine ite_tt ?_) | (with_reducible refine ite_ff ?_) | (with_reducible refine ite_ntt ?_) | (with_reducible refine ite_nff ?_) | (with_reducible refine n_isiS ?_) | (with_reducible refine n_isiL ?_) | (with_reducible refine n_isiT ?_)
  | ((with_reducible apply e_ixc); (focus rfl); (focus rfl)) | ((with_reducible apply e_ixcT); (focus rfl); (focus rfl))
  | (with_reducible refine e_op ?_) | (with_reducible refine e_un ?_) | (with_reducible refine e_cb ?_) | (with_reducible refine e_callA ?_) | (with_reducible refine e_andV ?_) | (with_reducible refine e_if ?_)
  | (with_reducible refine a_cons ?_) | (with_reducible refine a_nil ?_)
  | (with_reducible refine o_gt ?_) | (with_reducible refine o_lt ?_) | (with_reducible refine o_le ?_) | (with_reducible refine o_ge ?_) | (with_reducible refine o_add ?_) | (with_reducible refine o_sub ?_) | (with_reducible refine o_neg ?_)
  | (with_reducible refine e_tup ?_) | (with_reducible refine e_lst ?_) | (with_reducible refine exd0 ?_) | (with_reducible refine exd1 ?_) | (with_reducible refine exd2 ?_) | (with_reducible refine exd3 ?_) | (with_reducible refine exd4 ?_) | (with_reducible refine exd5 ?_) | (with_reducible refine exd6 ?_)
  | (with_reducible refine o_isNotI ?_) | (with_reducible refine o_isNotN ?_) | (with_reducible refine o_isNotS ?_) | (with_reducible refine o_isI ?_) | (with_reducible refine o_isN ?_) | (with_reducible refine o_isS ?_) | (with_reducible refine o_isT ?_)
  | (with_reducible refine t_yes ?_) | (with_reducible refine gw_name (by decide) ?_)
  | (with_reducible refine s_par ?_) | (with_reducible refine ex2 ?_) | (with_reducible refine o_eqI ?_) | (with_reducible refine o_neI ?_) | (with_reducible refine o_ixL (by assumption) (by assumption) ?_)
  | (with_reducible refine e_sl ?_) | (with_reducible refine l_none ?_) | (with_reducible refine l_some ?_)
  | (with_reducible refine n_list (by assumption) ?_)
  | (with_reducible refine s_par3 ?_) | (with_reducible refine o_isB ?_)
  | (with_reducible refine g_u2 ?_) | (with_reducible refine g_u3 ?_) | (with_reducible refine g_u4 ?_) | (with_reducible refine g_u5 ?_) | (with_reducible refine g_u6 ?_) | (with_reducible refine g_cons ?_) | (with_reducible refine g_nil ?_) | (with_reducible refine gw_u2 ?_) | (with_reducible refine gw_u3 ?_) | (with_reducible refine gw_u4 ?_) | (with_reducible refine gw_u5 ?_) | (with_reducible refine gw_u6 ?_) | (with_reducible refine gw_cons ?_) | (with_reducible refine gw_nil ?_)
  | (with_reducible refine e_chain ?_) | (with_reducible refine e_chain3 ?_) | (with_reducible refine e_orV ?_) | (with_reducible refine e_notV ?_)
  | (with_reducible refine ite_dec (fun h => absurd h (by decide)) (fun _ => ?_)) | (with_reducible refine ite_dec (fun _ => ?_) (fun h => absurd (by decide) h))
  | (with_reducible refine ite_dec (fun _ => ?_) (fun h => absurd (by omega) h)) | (with_reducible refine ite_dec (fun h => absurd h (by omega)) (fun _ => ?_))
  | (with_reducible refine ite_ndec (fun _ => ?_) (fun h => absurd h (by omega))) | (with_reducible refine ite_ndec (fun h => absurd (by omega) h) (fun _ => ?_))
  | (with_reducible refine Exists.intro _ (And.intro rfl ?_))))
local macro_rules | `(tactic| walk_at "st") => `(tactic| simp only [List.map_cons, List.map_nil, List.length_cons, List.length_nil, Nat.reduceAdd, Nat.reduceSub, List.replicate, List.cons_append, List.nil_append])
variable {K : PySem.W.Frag} {B : Base} {W : WX} {ss : List Sl} {o : O} {Rt : Sl → O → Prop} {Xt : Addr → List (Str × D) → O → Prop}
/-! ### the script, a raw value -/
section
variable {ρ : R} {P : Sl → O → Prop} {a : Addr} {ns : List Int}
theorem ex_of {F H : Hp} {θ : List Addr} {σ : L2.St} (hB : B.θ = []) (k : Ok B F H θ σ ρ o) : Ex B.H H := fun c w e => k.tr.kp c w e (by rw [hB]; simp)
theorem SqL.exx {H H' : Hp} {xs : List V} (h : SqL K H a xs) (e : Ex H H') : SqL K H' a xs := by
  rcases h with h | h
  · left
    rcases h with h | ⟨ob, h⟩
    · exact .inl (e _ _ h)
    · exact .inr ⟨ob, e _ _ h⟩
  · exact .inr h
theorem raw_eq {F : Hp} {v w : V} (h : Rep F v (.raw w)) : v = w := by
  cases h
  rfl
theorem n_lenR (hB : B.θ = []) (hS : SqL K B.H a (ns.map V.int)) (p : P (.da (.int ns.length)) o) : AN B (rLenA K) [.da (.raw (.ref a))] o P := fun F H θ σ ρ vs k r Q q => by
  cases r with
  | cons r1 r2 =>
    cases r2
    have e := raw_eq r1
    subst e
    refine .inl ⟨_, ns.length, rfl, .inl ⟨_, SqL.exx hS (ex_of hB k), by rw [List.length_map]⟩, q _ _ F H θ o (Tw.refl F H θ) k (RepS.dat (Rep.int _)) p⟩
theorem o_ixR (hB : B.θ = []) (hS : SqL K B.H a (ns.map V.int)) {i v : Int} (e : atI ns i = some v) (p : P (.da (.int v)) o) : A2 B (rIxA K) (.da (.raw (.ref a))) (.da (.int i)) o P := A2.or1 (A2.or1 (
  A2.of (z := .da (.int v)) (fun F H θ σ ρ x u k r1 r2 Q q => by
    have e1 := raw_eq r1
    have e2 := rep_int r2
    subst e1 e2
    obtain ⟨j, e3, e4⟩ := atI_eq e
    exact ⟨a, _, i, .int v, rfl, rfl, SqL.exx hS (ex_of hB k), atI_of (j := j) (by rw [List.length_map]; exact e3) (by rw [List.getElem?_map, e4]; rfl), q _ (Rep.int _)⟩) p))
theorem sl_R (hB : B.θ = []) (hS : SqL K B.H a []) {lo hi : Option Int} (p : P (.da (.lst [])) o) : A3 B (rSlW K) (.da (.raw (.ref a))) lo hi o P := fun F H θ σ ρ v k r Q q => by
  have e1 := raw_eq r
  subst e1
  refine .inl (.inl ⟨a, [], rfl, SqL.exx hS (ex_of hB k), fun l hn => ?_⟩)
  have e : cutV ([] : List V) lo hi = [] := by simp [cutV]
  rw [e]
  obtain ⟨t2, k2⟩ := k.put (u := .lst []) hn
  exact q _ _ _ _ _ _ t2.w k2 (RepS.dat (Rep.lst upd_same .nil)) p
end
theorem w__law_purse (hB : B.θ = []) {a : Addr} {ns : List Int} (hS : SqL K B.H a (ns.map V.int)) (hl : ns.length ≤ 1000) : WS B (r__law_purse K W) { nx := fun _ _ => False, rt := fun s o' => ∃ (j : Nat) (p q r : Int), s = .ow j ∧ o'[j]? = some (.lst [.da (.int p), .da (.int q), .da (.int r)]) } [some (.da (.raw (.ref a))), some (.da (.int 0)), none, none, none] o := by
  unfold r__law_purse
  have rest : ∀ cell : Int, WS B (tSeq (tAsg (tOp rAddA (tOp rMulA (tC (.int 2)) (tCB rAbsI (tCons (tVar 2) tNil))) (tIf (tTest (tOp rLtA (tVar 2) (tC (.int 0)))) (tC (.int 1)) (tC (.int 0)))) (gName 3))
      (tRet (tLst (tCons (tIf (tTest (tOp rGeA (tVar 3) (tOp rPowA (tC (.int 10)) (tC (.int 18))))) (tVar 3) (tC (.int 0))) (tCons (tOp rModA (tCB rIntI (tCons (tOp rAddA (tOp rAddA (tVar 3) (tOp rMulA (tVar 1) (tC (.int 104729)))) (tC (.int 12345))) tNil)) (tC (.int 2147483629))) (tCons (tVar 1) tNil))))))
      { nx := fun _ _ => False, rt := fun s o' => ∃ (j : Nat) (p q r : Int), s = .ow j ∧ o'[j]? = some (.lst [.da (.int p), .da (.int q), .da (.int r)]) } [some (.da (.raw (.ref a))), some (.da (.int 0)), some (.da (.int cell)), none, none] o := by
    intro cell
    have fin : ∀ size : Int, WS B (tRet (tLst (tCons (tIf (tTest (tOp rGeA (tVar 3) (tOp rPowA (tC (.int 10)) (tC (.int 18))))) (tVar 3) (tC (.int 0))) (tCons (tOp rModA (tCB rIntI (tCons (tOp rAddA (tOp rAddA (tVar 3) (tOp rMulA (tVar 1) (tC (.int 104729)))) (tC (.int 12345))) tNil)) (tC (.int 2147483629))) (tCons (tVar 1) tNil)))))
        { nx := fun _ _ => False, rt := fun s o' => ∃ (j : Nat) (p q r : Int), s = .ow j ∧ o'[j]? = some (.lst [.da (.int p), .da (.int q), .da (.int r)]) } [some (.da (.raw (.ref a))), some (.da (.int 0)), some (.da (.int cell)), some (.da (.int size)), none] o := by
      intro size
      refine s_ret (e_lstO ?_)
      have two : ∀ p : Int, AA B (tCons (tOp rModA (tCB rIntI (tCons (tOp rAddA (tOp rAddA (tVar 3) (tOp rMulA (tVar 1) (tC (.int 104729)))) (tC (.int 12345))) tNil)) (tC (.int 2147483629))) (tCons (tVar 1) tNil)) [some (.da (.raw (.ref a))), some (.da (.int 0)), some (.da (.int cell)), some (.da (.int size)), none] o
          fun xs o1 => (Sl.da (.int p) :: xs).length ≤ sizeLine ∧ ∃ (j : Nat) (p' q r : Int), Sl.ow o1.length = .ow j ∧ (o1 ++ [OO.lst (.da (.int p) :: xs)])[j]? = some (.lst [.da (.int p'), .da (.int q), .da (.int r)]) := by
        intro p
        walk_at "e"
        refine o_mul (.inl ⟨by decide, by decide⟩) ?_
        walk_at "e"
        refine n_int ?_
        walk_at "e"
        refine o_mod (by decide) ?_
        walk_at "e"
        exact ⟨sizeBig (Nat.le_of_ble_eq_true rfl), _, _, _, _, rfl, get_new⟩
      refine a_cons (e_if ?_)
      walk_at "e"
      refine o_pow ⟨by decide, by decide, by decide⟩ ?_
      walk_at "e"
      refine ite_dec (fun h1 => ?_) fun h1 => ?_
      · exact e_var rfl (two _)
      · exact e_int (two _)
    refine s_seq (s_asg (e_op (e_op (e_int (e_cb (a_cons (e_var rfl (a_nil (n_abs ?_)))))))))
    refine o_mul (.inl ⟨by decide, by decide⟩) ?_
    refine e_if ?_
    walk_at "e"
    refine ite_dec (fun h1 => ?_) fun h1 => ?_
    · exact e_int (o_add (g_name (fin _)))
    · exact e_int (o_add (g_name (fin _)))
  refine s_seq (s_asg (e_if (t_test (e_op (e_var rfl (e_cb (a_cons (e_var rfl (a_nil (n_lenR hB hS ?_))))))))))
  walk_at "e"
  refine ite_dec (fun h1 => ?_) fun h1 => ?_
  · cases ns with
    | nil => exact absurd h1 (by decide)
    | cons n r =>
      refine e_cb (a_cons (e_op (e_var rfl (e_var rfl (o_ixR hB hS (v := n) at0 (a_nil (n_int (g_name ?_))))))))
      exact rest n
  · cases ns with
    | cons n r => exact absurd (show (0 : Int) < ((n :: r).length : Int) by simp only [List.length_cons]; omega) h1
    | nil =>
      refine e_op (e_int (e_cb (a_cons (e_lc ?_))))
      refine e_sl (e_var rfl (l_none (l_some (e_int ⟨_, rfl, sl_R hB hS ?_⟩))))
      refine ⟨[], rfl, fun i acc o' => o' = o ∧ acc = [], ⟨rfl, rfl⟩, (fun i acc o' q => by rw [q.2]; exact Nat.zero_le _), (fun i d acc o' hd => by simp at hd), ?_⟩
      rintro acc o' ⟨rfl, rfl⟩
      refine a_nil (n_sum (ns := []) rfl (o_mul (.inl ⟨by decide, by decide⟩) (g_name ?_)))
      exact rest _
theorem sp_purse {vs : List V} {H : Hp} {Q : VK} {E : XK} (h : sp__law_purse K vs H Q E) : r__law_purse K W { nx := fun _ H' => Q .non H', rt := Q } (L2.start ["script", "at", "cell", "size", "one"] vs) H := by
  obtain ⟨a, ns, rfl, hS, hl, q⟩ := h
  have w := w__law_purse (W := W) (B := ⟨fun _ => none, H, []⟩) (o := []) rfl hS hl
  refine w (fun _ => none) H [] _ ⟨Tr.refl _ _ _, (fun a w z => by cases z), rfl, List.nodup_nil, (fun j a u z => by simp at z), (fun j a u z => by simp at z), ⟨rfl, fun i s e => ?_⟩⟩ _ ⟨fun F' H' θ' σ ρ o t k p => p.elim, fun F' H' θ' σ ρ o v s t k r p => ?_, fun F' H' θ' σ ρ o t k p => p.elim, fun F' H' θ' σ ρ o t k p => p.elim⟩
  · match i, e with
    | 0, e => cases e; exact ⟨_, rfl, RepS.dat (Rep.raw _)⟩
    | 1, e => cases e; exact ⟨_, rfl, RepS.dat (Rep.int _)⟩
    | 2, e => cases e
    | 3, e => cases e
    | 4, e => cases e
    | n + 5, e => simp at e
  · obtain ⟨j, x, y, z, rfl, ho⟩ := p
    obtain ⟨l, rfl, hl⟩ := r
    obtain ⟨l', hl', xs, h1, h2⟩ := k.own ho
    rw [hl] at hl'
    cases hl'
    have e : xs = [.int x, .int y, .int z] := by
      cases h2 with
      | cons r1 h2 =>
        cases h2 with
        | cons r2 h2 =>
          cases h2 with
          | cons r3 h2 =>
            cases h2
            rw [rep_int r1, rep_int r2, rep_int r3]
    subst e
    have hn : H l = none := by
      rcases k.tr.nt l (List.mem_of_getElem? hl) with q | q
      · simp at q
      · exact q
    have e2 : upd (del H' l) l (.lst [.int x, .int y, .int z]) = H' := by
      funext c
      by_cases hc : c = l
      · rw [hc, upd_same, h1]
      · rw [upd_ne hc, del_ne hc]
    have := q x y z (del H' l) l (fun c w e => by
      have hc : c ≠ l := fun z => by rw [z, hn] at e; cases e
      rw [del_ne hc]
      exact k.tr.kp c w e (by simp)) del_same
    rw [e2] at this
    exact this
theorem w__law_matches {n : Nat} (c : cM (n + 1) ss o Rt Xt) : Wf (r__law_matches (cM n) K W) 3 B ss o Rt := by
  obtain ⟨x, y, d, rfl, hx, hy, hm, h⟩ := c
  unfold Wf r__law_matches
  walk_at "st"
  have el : ∀ (l : List D), l.length ≤ 1000000 → (∀ z, z ∈ l → Mt n z) → ∀ (ox : ∀ (i : Nat) (P : Sl → O → Prop), (∀ z, l[i]? = some z → P (.da z) o) → i < l.length → A2 B (rIxA K) x (.da (.int (i : Int))) o P) (oy : ∀ (i : Nat) (P : Sl → O → Prop), (∀ z, l[i]? = some z → P (.da z) o) → i < l.length → A2 B (rIxA K) y (.da (.int (i : Int))) o P) (ly : ∀ P : Sl → O → Prop, P (.da (.int l.length)) o → AN B (rLenA K) [y] o P),
      WS B (tSeq (tFor (iRng1 (tCons (tCB (rLenA K) (tCons (tVar 1) tNil)) tNil)) (gName 2) (tIfS (tNot (tB (tCallS (SpC (cM n)) (WE W) (tCons (tOp (rIxA K) (tVar 0) (tVar 2)) (tCons (tOp (rIxA K) (tVar 1) (tVar 2)) tNil))))) (tRet (tC (.bl false))) tNext)) (tRet (tC (.bl true)))) { nx := fun x o => Rt (Sl.da D.non) o, rt := Rt } [some x, some y, none] o := by
    intro l ll hl ox oy ly
    refine s_seq (s_range1 (a_cons (e_cb (a_cons (e_var rfl (a_nil (ly _ (a_nil ⟨_, rfl, by omega, by omega, fun i ρ' o' => o' = o ∧ ∃ u, ρ' = [some x, some y, u], ⟨rfl, _, rfl⟩, ?_, ?_⟩))))))))
    · rintro i ρ' o' hi ⟨rfl, u, rfl⟩
      have hi' : i < l.length := by omega
      walk_at "e"
      refine ox i _ (fun z hz => ?_) hi'
      walk_at "e"
      refine oy i _ (fun z' hz' => ?_) hi'
      rw [hz] at hz'
      cases hz'
      walk_at "e"
      refine ⟨.da z, .da z, z, rfl, .inl rfl, .inl rfl, hl z (List.mem_of_getElem? hz), ?_⟩
      walk_at "e"
      exact ⟨rfl, _, rfl⟩
    · rintro ρ' o' ⟨rfl, u, rfl⟩
      walk_at "e"
      exact h
  have simple : (∀ l, d ≠ .lst l) → d.py.plain = true → min d.py.depth d.py.depth ≤ 60 → ∀ P : Sl → O → Prop, P (.da (.bl true)) o → A2 B (rEqP K) x y o P := fun h1 h2 h3 P p => by
    rw [hx.da h1, hy.da h1]
    exact o_eq h2 h2 h3 (by rw [eqv_refl _ h2]; exact p)
  walk_at "e"
  cases d with
  | non =>
    refine o_isMV (b := true) hy hm rfl ?_
    walk_at "e"
    refine o_isMV (b := true) hy hm rfl ?_
    walk_at "e"
    refine o_isMV (b := true) hx hm rfl ?_
    exact h
  | bl b =>
    refine o_isMV (b := false) hy hm rfl ?_
    walk_at "e"
    refine o_isMV (b := false) hx hm rfl ?_
    walk_at "e"
    refine n_isiMV hy hm (show kitB "bool" "bool" = some true by decide +kernel) ?_
    walk_at "e"
    refine n_isiMV hy hm (show kitB "bool" "bool" = some true by decide +kernel) ?_
    walk_at "e"
    refine n_isiMV hx hm (show kitB "bool" "bool" = some true by decide +kernel) ?_
    walk_at "e"
    refine simple (fun l z => by cases z) rfl (by simp [D.py, PyData.depth]) _ ?_
    exact h
  | int b =>
    refine o_isMV (b := false) hy hm rfl ?_
    walk_at "e"
    refine o_isMV (b := false) hx hm rfl ?_
    walk_at "e"
    refine n_isiMV hy hm (show kitB "int" "bool" = some false by decide +kernel) ?_
    walk_at "e"
    refine n_isiMV hx hm (show kitB "int" "bool" = some false by decide +kernel) ?_
    walk_at "e"
    refine n_isiMV hy hm (show kitB "int" "int" = some true by decide +kernel) ?_
    walk_at "e"
    refine n_isiMV hx hm (show kitB "int" "int" = some true by decide +kernel) ?_
    walk_at "e"
    refine simple (fun l z => by cases z) rfl (by simp [D.py, PyData.depth]) _ ?_
    exact h
  | str b =>
    refine o_isMV (b := false) hy hm rfl ?_
    walk_at "e"
    refine o_isMV (b := false) hx hm rfl ?_
    walk_at "e"
    refine n_isiMV hy hm (show kitB "str" "bool" = some false by decide +kernel) ?_
    walk_at "e"
    refine n_isiMV hx hm (show kitB "str" "bool" = some false by decide +kernel) ?_
    walk_at "e"
    refine n_isiMV hy hm (show kitB "str" "int" = some false by decide +kernel) ?_
    walk_at "e"
    refine n_isiMV hy hm (show kitB "str" "str" = some true by decide +kernel) ?_
    walk_at "e"
    refine n_isiMV hx hm (show kitB "str" "str" = some true by decide +kernel) ?_
    walk_at "e"
    refine simple (fun l z => by cases z) rfl (by simp [D.py, PyData.depth]) _ ?_
    exact h
  | tup l =>
    refine o_isMV (b := false) hy hm rfl ?_
    have ex := hx.da (fun l z => by cases z)
    have ey := hy.da (fun l z => by cases z)
    walk_at "e"
    refine o_isMV (b := false) hx hm rfl ?_
    walk_at "e"
    refine n_isiMV hy hm (show kitB "tuple" "bool" = some false by decide +kernel) ?_
    walk_at "e"
    refine n_isiMV hx hm (show kitB "tuple" "bool" = some false by decide +kernel) ?_
    walk_at "e"
    refine n_isiMV hy hm (show kitB "tuple" "int" = some false by decide +kernel) ?_
    walk_at "e"
    refine n_isiMV hy hm (show kitB "tuple" "str" = some false by decide +kernel) ?_
    walk_at "e"
    refine n_isiMV hy hm (show kitB "tuple" "tuple" = some true by decide +kernel) ?_
    walk_at "e"
    refine n_isiMV hx hm (show kitB "tuple" "tuple" = some true by decide +kernel) ?_
    walk_at "e"
    refine n_isiMV hy hm (show kitB "tuple" "list" = some false by decide +kernel) ?_
    walk_at "e"
    rw [ex]
    refine n_lenT ?_
    walk_at "e"
    rw [ey]
    refine n_lenT ?_
    refine o_neI ?_
    rw [decide_eq_true rfl]
    refine ⟨_, rfl, ite_ff (s_next ?_)⟩
    have := el l hm.1 hm.2 (fun i P hp hi => by rw [ex]; exact o_ixT (atI_nat (List.getElem?_eq_getElem hi)) (hp _ (List.getElem?_eq_getElem hi))) (fun i P hp hi => by rw [ey]; exact o_ixT (atI_nat (List.getElem?_eq_getElem hi)) (hp _ (List.getElem?_eq_getElem hi))) (fun P p => by rw [ey]; exact n_lenT p)
    rw [ex, ey] at this
    exact this
  | lst l =>
    refine o_isMV (b := false) hy hm rfl ?_
    have ex := hx.ll
    have ey := hy.ll
    walk_at "e"
    refine o_isMV (b := false) hx hm rfl ?_
    walk_at "e"
    refine n_isiMV hy hm (show kitB "list" "bool" = some false by decide +kernel) ?_
    walk_at "e"
    refine n_isiMV hx hm (show kitB "list" "bool" = some false by decide +kernel) ?_
    walk_at "e"
    refine n_isiMV hy hm (show kitB "list" "int" = some false by decide +kernel) ?_
    walk_at "e"
    refine n_isiMV hy hm (show kitB "list" "str" = some false by decide +kernel) ?_
    walk_at "e"
    refine n_isiMV hy hm (show kitB "list" "tuple" = some false by decide +kernel) ?_
    walk_at "e"
    refine n_isiMV hy hm (show kitB "list" "list" = some true by decide +kernel) ?_
    walk_at "e"
    refine n_isiMV hx hm (show kitB "list" "list" = some true by decide +kernel) ?_
    walk_at "e"
    refine n_len ex ?_
    walk_at "e"
    refine n_len ey ?_
    refine o_neI ?_
    rw [decide_eq_true rfl]
    refine ⟨_, rfl, ite_ff (s_next ?_)⟩
    exact el l hm.1 hm.2 (fun i P hp hi => o_ixL ex (atI_map (atI_nat (List.getElem?_eq_getElem hi))) (hp _ (List.getElem?_eq_getElem hi))) (fun i P hp hi => o_ixL ey (atI_map (atI_nat (List.getElem?_eq_getElem hi))) (hp _ (List.getElem?_eq_getElem hi))) (fun P p => n_len ey (by rw [List.length_map]; exact p))
  | _ => exact False.elim hm
end K07
end AB

set_option Elab.async false
set_option linter.all false
set_option maxRecDepth 100000
set_option maxHeartbeats 4000000
set_option autoImplicit false
namespace AB
open PySem L2 PySem.Spec PyProof.Rows He
namespace K07
/-! ### lists of when each helper knows: the mathematics -/
def g (k : Kn) (i : Nat) : Option Int := (k[i]?).getD none
theorem at_g (k : Kn) (h : Int) : at_ k h = g k (h - 1).toNat := rfl
theorem Le.refl (a : Option Int) : Le a a := by
  cases a with
  | none => trivial
  | some x => exact ⟨x, rfl, Int.le_refl _⟩
theorem Le.trans {a b c : Option Int} (h : Le a b) (h' : Le b c) : Le a c := by
  cases c with
  | none => trivial
  | some z =>
    obtain ⟨y, rfl, hy⟩ := h'
    obtain ⟨x, rfl, hx⟩ := h
    exact ⟨x, rfl, by omega⟩
theorem Le.anti {a b : Option Int} (h : Le a b) (h' : Le b a) : a = b := by
  cases b with
  | none =>
    cases a with
    | none => rfl
    | some x => obtain ⟨y, e, _⟩ := h'; cases e
  | some y =>
    obtain ⟨x, rfl, hx⟩ := h
    obtain ⟨z, e, hz⟩ := h'
    cases e
    congr 1
    omega
theorem not_bet {v : Int} {x : Option Int} : bet v x = false ↔ Le x (some v) := by
  cases x with
  | none => exact ⟨fun h => (by cases h), fun ⟨y, e, _⟩ => (by cases e)⟩
  | some y =>
    unfold bet
    rw [decide_eq_false_iff_not]
    exact ⟨fun h => ⟨y, rfl, by omega⟩, fun ⟨z, e, h⟩ => (by cases e; omega)⟩
theorem since_le {x : Option Int} {t : Int} : since x t = true ↔ Le x (some t) := by
  cases x with
  | none => exact ⟨fun h => (by cases h), fun ⟨y, e, _⟩ => (by cases e)⟩
  | some y =>
    unfold since
    rw [decide_eq_true_iff]
    exact ⟨fun h => ⟨y, rfl, h⟩, fun ⟨z, e, h⟩ => (by cases e; exact h)⟩
theorem upd_len (k : Kn) (h v : Int) : (updK k h v).length = k.length := by
  unfold updK
  split
  · rw [List.length_set]
  · rfl
theorem g_set (k : Kn) (j i : Nat) (v : Option Int) : g (k.set j v) i = if i = j ∧ j < k.length then v else g k i := by
  unfold g
  by_cases e : i = j
  · subst e
    by_cases hl : i < k.length
    · rw [List.getElem?_set_self hl, if_pos ⟨rfl, hl⟩]; rfl
    · rw [if_neg (fun z => hl z.2), List.getElem?_eq_none (by rw [List.length_set]; omega), List.getElem?_eq_none (by omega)]
  · rw [List.getElem?_set_ne (fun z => e z.symm), if_neg (fun z => e z.1)]
theorem upd_g (k : Kn) (h v : Int) (i : Nat) : g (updK k h v) i = g k i ∨ (g (updK k h v) i = some v ∧ i = (h - 1).toNat ∧ bet v (g k i) = true) := by
  unfold updK
  split
  · rename_i hb
    rw [g_set]
    split
    · rename_i z
      refine .inr ⟨rfl, z.1, ?_⟩
      rw [z.1]
      exact hb
    · exact .inl rfl
  · exact .inl rfl
theorem upd_le (k : Kn) (h v : Int) (i : Nat) : Le (g (updK k h v) i) (g k i) := by
  rcases upd_g k h v i with e | ⟨e, _, hb⟩
  · rw [e]; exact Le.refl _
  · rw [e]
    cases q : g k i with
    | none => trivial
    | some y =>
      rw [q] at hb
      unfold bet at hb
      rw [decide_eq_true_iff] at hb
      exact ⟨v, rfl, by omega⟩
theorem upd_hit {k : Kn} {h v : Int} (hl : (h - 1).toNat < k.length) : Le (at_ (updK k h v) h) (some v) := by
  rw [at_g]
  unfold updK
  split
  · rw [g_set, if_pos ⟨rfl, hl⟩]
    exact Le.refl _
  · rename_i hb
    exact not_bet.mp (Bool.eq_false_iff.mpr hb)
theorem upd_low {k K' : Kn} {h v : Int} (hk : ∀ i, Le (g K' i) (g k i)) (hv : Le (at_ K' h) (some v)) : ∀ i, Le (g K' i) (g (updK k h v) i) := fun i => by
  rcases upd_g k h v i with e | ⟨e, q, hb⟩
  · rw [e]; exact hk i
  · rw [e, q]; exact hv
/-! folds -/
theorem fold_mem {α β : Type} {P : β → Prop} {f : β → α → β} : ∀ (l : List α) (b : β), (∀ x b, x ∈ l → P b → P (f b x)) → P b → P (l.foldl f b)
  | [], b, _, hb => hb
  | x :: r, b, h, hb => fold_mem r (f b x) (fun y b hy => h y b (List.mem_cons_of_mem _ hy)) (h x b (List.mem_cons_self ..) hb)
theorem fold_done {α β : Type} {P : List α → β → Prop} {f : β → α → β} : ∀ (l d : List α) (b : β), (∀ d x b, x ∈ l → P d b → P (x :: d) (f b x)) → P d b → P (l.reverse ++ d) (l.foldl f b)
  | [], d, b, _, hb => hb
  | x :: r, d, b, h, hb => by
    have := fold_done r (x :: d) (f b x) (fun d y b hy => h d y b (List.mem_cons_of_mem _ hy)) (h d x b (List.mem_cons_self ..) hb)
    rw [List.reverse_cons, List.append_assoc]
    exact this
theorem fold_range {β : Type} {P : Nat → β → Prop} {f : β → Nat → β} (n : Nat) (b : β) (h : ∀ i b, i < n → P i b → P (i + 1) (f b i)) (hb : P 0 b) : P n ((List.range n).foldl f b) := by
  induction n with
  | zero => exact hb
  | succ n ih =>
    rw [List.range_succ, List.foldl_append]
    exact h n _ (Nat.lt_succ_self _) (ih fun i b hi => h i b (by omega))
/-! closed lists -/
def Closed (w : Wo) (k : Kn) : Prop := ∀ l, l ∈ w.ls → l.yes = [] → since (at_ k l.s) l.st = true → Le (at_ k l.r) (some l.ar)
theorem open_none {w : Wo} {k : Kn} : openF w k = none ↔ Closed w k := by
  unfold openF
  rw [List.findIdx?_eq_none_iff]
  constructor
  · intro h l hl hy hs
    have := h l hl
    unfold opn at this
    rw [hy, hs, decide_eq_true rfl, Bool.true_and, Bool.true_and] at this
    exact not_bet.mp this
  · intro h l hl
    unfold opn
    cases hy : decide (l.yes = []) with
    | false => rfl
    | true =>
      cases hs : since (at_ k l.s) l.st with
      | false => rfl
      | true =>
        rw [Bool.true_and, Bool.true_and]
        exact not_bet.mpr (h l hl (of_decide_eq_true hy) hs)
theorem holds_nil {yes no : List Str} : holdsB [] yes no = decide (yes = []) := by
  unfold holdsB
  have e : no.all (fun w => !decide (w ∈ ([] : List Str))) = true := List.all_eq_true.mpr fun x _ => by simp
  rw [e, Bool.and_true]
  cases yes with
  | nil => rfl
  | cons a r => simp
theorem mem_carrL {w : Wo} {l : LR} : l ∈ carrL w ↔ l ∈ w.ls ∧ l.yes = [] := by
  unfold carrL carr
  rw [List.mem_filterMap]
  constructor
  · rintro ⟨n, hn, e⟩
    rw [List.mem_filter] at hn
    obtain ⟨_, hn⟩ := hn
    rw [e] at hn
    dsimp only at hn
    rw [holds_nil] at hn
    exact ⟨List.mem_of_getElem? e, of_decide_eq_true hn⟩
  · rintro ⟨hl, hy⟩
    obtain ⟨i, hi, e⟩ := List.getElem_of_mem hl
    have e' : w.ls[i]? = some l := by rw [List.getElem?_eq_getElem hi, e]
    refine ⟨i, ?_, e'⟩
    rw [List.mem_filter, List.mem_range, e']
    refine ⟨hi, ?_⟩
    dsimp only
    rw [holds_nil, hy]
    rfl
/-- right starts -/
def StOk (w : Wo) (st : List (Int × Int)) : Prop := ∀ p, p ∈ st → 1 ≤ p.1 ∧ p.1 ≤ w.hc ∧ 0 ≤ p.2 ∧ p.2 ≤ w.last
theorem hold_iff {k : Kn} {st : List (Int × Int)} : Hold k st ↔ ∀ p, p ∈ st → Le (at_ k p.1) (some p.2) := Iff.rfl
theorem low_starts {K' k : Kn} {st : List (Int × Int)} (h : Hold K' st) (hk : ∀ i, Le (g K' i) (g k i)) : ∀ i, Le (g K' i) (g (startsF k st) i) :=
  fold_mem (P := fun k => ∀ i, Le (g K' i) (g k i)) st k (fun p b hp hb => upd_low hb (h p hp)) hk
theorem low_letF {K' k : Kn} {t : Int} {l : LR} (hc : since (at_ K' l.s) l.st = true → Le (at_ K' l.r) (some l.ar)) (hk : ∀ i, Le (g K' i) (g k i)) : ∀ i, Le (g K' i) (g (letF k t l) i) := by
  unfold letF
  split
  · rename_i z
    exact upd_low hk (hc (since_le.mpr ((hk _).trans (since_le.mp (by rw [z.1]; exact z.2)))))
  · exact hk
theorem low_ownL {K' k : Kn} {l : LR} (hc : l.yes = [] → since (at_ K' l.s) l.st = true → Le (at_ K' l.r) (some l.ar)) (hk : ∀ i, Le (g K' i) (g k i)) : ∀ i, Le (g K' i) (g (ownL k l) i) := by
  unfold ownL
  split
  · rename_i z
    exact upd_low hk (hc z.1 (since_le.mpr ((hk _).trans (since_le.mp z.2))))
  · exact hk
theorem g_blank (w : Wo) (i : Nat) : g (blank w) i = none := by
  unfold g blank
  rw [List.getElem?_replicate]
  split <;> rfl
theorem low_blank {w : Wo} {K' : Kn} : ∀ i, Le (g K' i) (g (blank w) i) := fun i => by rw [g_blank]; trivial
/-- a closed list that holds the starts is nowhere later -/
theorem low_spread {w : Wo} {K' : Kn} {st : List (Int × Int)} (hc : Closed w K') (hh : Hold K' st) : ∀ i, Le (g K' i) (g (spreadF w st) i) := by
  unfold spreadF
  refine fold_mem (P := fun k => ∀ i, Le (g K' i) (g k i)) _ _ (fun t b _ hb => ?_) (low_starts hh low_blank)
  unfold momF
  refine fold_mem (P := fun k => ∀ i, Le (g K' i) (g k i)) _ _ (fun l b hl hb => ?_) hb
  obtain ⟨h1, h2⟩ := mem_carrL.mp hl
  exact low_letF (hc l h1 h2) hb
theorem low_own {w : Wo} {K' : Kn} {st : List (Int × Int)} (hc : Closed w K') (hh : Hold K' st) : ∀ i, Le (g K' i) (g (ownF w st) i) := by
  unfold ownF
  refine fold_mem (P := fun k => ∀ i, Le (g K' i) (g k i)) _ _ (fun t b _ hb => ?_) (low_starts hh low_blank)
  exact fold_mem (P := fun k => ∀ i, Le (g K' i) (g k i)) _ _ (fun l b hl hb => low_ownL (hc l hl) hb) hb
/-! lengths -/
theorem len_starts {k : Kn} {st : List (Int × Int)} : (startsF k st).length = k.length := fold_mem (P := fun (b : Kn) => b.length = k.length) st k (fun p b _ hb => by rw [upd_len, hb]) rfl
theorem len_letF {k : Kn} {t : Int} {l : LR} : (letF k t l).length = k.length := by
  unfold letF
  split
  · exact upd_len _ _ _
  · rfl
theorem len_momF {w : Wo} {k : Kn} {t : Int} : (momF w k t).length = k.length := fold_mem (P := fun (b : Kn) => b.length = k.length) _ k (fun p b _ hb => by rw [len_letF, hb]) rfl
theorem len_blank {w : Wo} : (blank w).length = w.hc.toNat := List.length_replicate
theorem len_spread {w : Wo} {st : List (Int × Int)} : (spreadF w st).length = w.hc.toNat := by
  unfold spreadF
  exact fold_mem (P := fun (b : Kn) => b.length = w.hc.toNat) _ _ (fun p b _ hb => by rw [len_momF, hb]) (by rw [len_starts, len_blank])
theorem len_ownL {k : Kn} {l : LR} : (ownL k l).length = k.length := by
  unfold ownL
  split
  · exact upd_len _ _ _
  · rfl
theorem len_round {w : Wo} {k : Kn} : (w.ls.foldl ownL k).length = k.length := fold_mem (P := fun (b : Kn) => b.length = k.length) _ k (fun p b _ hb => by rw [len_ownL, hb]) rfl
theorem len_own {w : Wo} {st : List (Int × Int)} : (ownF w st).length = w.hc.toNat := by
  unfold ownF
  exact fold_mem (P := fun (b : Kn) => b.length = w.hc.toNat) _ _ (fun p b _ hb => by rw [len_round, hb]) (by rw [len_starts, len_blank])
/-! the starts are held -/
theorem starts_le {k : Kn} {st : List (Int × Int)} (i : Nat) : Le (g (startsF k st) i) (g k i) := fold_mem (P := fun b => Le (g b i) (g k i)) st k (fun p b _ hb => (upd_le _ _ _ _).trans hb) (Le.refl _)
theorem starts_hold {k : Kn} : ∀ {st : List (Int × Int)}, (∀ p, p ∈ st → (p.1 - 1).toNat < k.length) → Hold (startsF k st) st
  | [], _ => fun p hp => by cases hp
  | p :: r, h => fun q hq => by
    show Le (at_ (startsF (updK k p.1 p.2) r) q.1) _
    have hl : ∀ p', p' ∈ r → (p'.1 - 1).toNat < (updK k p.1 p.2).length := fun p' hp' => by rw [upd_len]; exact h p' (List.mem_cons_of_mem _ hp')
    rcases List.mem_cons.mp hq with e | e
    · subst e
      exact (starts_le _).trans (upd_hit (h q (List.mem_cons_self ..)))
    · exact starts_hold hl q e
theorem letF_le {k : Kn} {t : Int} {l : LR} (i : Nat) : Le (g (letF k t l) i) (g k i) := by
  unfold letF
  split
  · exact upd_le _ _ _ _
  · exact Le.refl _
theorem momF_le {w : Wo} {k : Kn} {t : Int} (i : Nat) : Le (g (momF w k t) i) (g k i) := fold_mem (P := fun b => Le (g b i) (g k i)) _ k (fun p b _ hb => (letF_le _).trans hb) (Le.refl _)
theorem ownL_le {k : Kn} {l : LR} (i : Nat) : Le (g (ownL k l) i) (g k i) := by
  unfold ownL
  split
  · exact upd_le _ _ _ _
  · exact Le.refl _
theorem round_le {ls : List LR} {k : Kn} (i : Nat) : Le (g (ls.foldl ownL k) i) (g k i) := fold_mem (P := fun b => Le (g b i) (g k i)) _ k (fun p b _ hb => (ownL_le _).trans hb) (Le.refl _)
theorem spread_hold {w : Wo} {st : List (Int × Int)} (ho : StOk w st) : Hold (spreadF w st) st := fun p hp => by
  have h1 : Le (at_ (startsF (blank w) st) p.1) (some p.2) := starts_hold (fun p hp => by have := ho p hp; rw [len_blank]; omega) p hp
  refine Le.trans ?_ h1
  rw [at_g, at_g]
  unfold spreadF
  exact fold_mem (P := fun b => Le (g b _) (g (startsF (blank w) st) _)) _ _ (fun t b _ hb => (momF_le _).trans hb) (Le.refl _)
/-! .. and the list is closed -/
theorem letF_since {k : Kn} {t t' : Int} {m : LR} {i : Nat} (ht : t' ≤ t) (hm : t < m.ar) (h : since (g (letF k t m) i) t' = true) : since (g k i) t' = true := by
  unfold letF at h
  split at h
  · rcases upd_g k m.r m.ar i with e | ⟨e, _, _⟩
    · rw [e] at h; exact h
    · rw [e] at h
      unfold since at h
      rw [decide_eq_true_iff] at h
      omega
  · exact h
theorem spread_closed {w : Wo} (ok : w.ok) (st : List (Int × Int)) : Closed w (spreadF w st) := by
  have key : ∀ l, l ∈ carrL w → l.st < ((w.last + 1).toNat : Int) → since (at_ (spreadF w st) l.s) l.st = true → Le (at_ (spreadF w st) l.r) (some l.ar) := by
    have : (spreadF w st).length = w.hc.toNat ∧ ∀ l, l ∈ carrL w → l.st < ((w.last + 1).toNat : Int) → since (at_ (spreadF w st) l.s) l.st = true → Le (at_ (spreadF w st) l.r) (some l.ar) := by
      unfold spreadF
      refine fold_range (P := fun (n : Nat) k => k.length = w.hc.toNat ∧ ∀ l, l ∈ carrL w → l.st < (n : Int) → since (at_ k l.s) l.st = true → Le (at_ k l.r) (some l.ar)) _ _ (fun t k _ ⟨hk, hc⟩ => ?_) ⟨by rw [len_starts, len_blank], fun l hl h0 => ?_⟩
      · refine ⟨by rw [len_momF, hk], ?_⟩
        have := fold_done (P := fun d k => k.length = w.hc.toNat ∧ (∀ l, l ∈ carrL w → l.st < (t : Int) → since (at_ k l.s) l.st = true → Le (at_ k l.r) (some l.ar)) ∧ ∀ l, l ∈ d → l.st = (t : Int) → since (at_ k l.s) l.st = true → Le (at_ k l.r) (some l.ar)) (f := fun k l => letF k (t : Int) l) (carrL w) [] k
          (fun d m k hm ⟨hk, h1, h2⟩ => ?_) ⟨hk, hc, fun l hl => by cases hl⟩
        · obtain ⟨_, h1, h2⟩ := this
          intro l hl hlt hs
          by_cases e : l.st = (t : Int)
          · exact h2 l (by rw [List.append_nil, List.mem_reverse]; exact hl) e hs
          · exact h1 l hl (by omega) hs
        · obtain ⟨q1, q2, q3, q4, q5, q6, q7, q8, q9⟩ := ok.lw m (mem_carrL.mp hm).1
          by_cases cm : m.st = (t : Int) ∧ since (at_ k m.s) t = true
          · have har : (t : Int) < m.ar := by omega
            refine ⟨by rw [len_letF, hk], fun l hl hlt hs => ?_, fun l hl he hs => ?_⟩
            · exact (letF_le _).trans (h1 l hl hlt (letF_since (by omega) har hs))
            · rcases List.mem_cons.mp hl with e | e
              · subst e
                unfold letF
                rw [if_pos cm]
                exact upd_hit (by rw [hk]; omega)
              · exact (letF_le _).trans (h2 l e he (letF_since (by omega) har hs))
          · have e : letF k (t : Int) m = k := by unfold letF; rw [if_neg cm]
            rw [e]
            refine ⟨hk, h1, fun l hl he hs => ?_⟩
            rcases List.mem_cons.mp hl with q | q
            · subst q
              exact absurd ⟨he, by rw [he] at hs; exact hs⟩ cm
            · exact h2 l q he hs
      · have := (ok.lw l (mem_carrL.mp hl).1).2.2.2.2.2.1
        exact absurd h0 (by omega)
    exact this.2
  intro l hl hy hs
  obtain ⟨q1, q2, q3, q4, q5, q6, q7, q8, q9⟩ := ok.lw l hl
  exact key l (mem_carrL.mpr ⟨hl, hy⟩) (by omega) hs
/-! .. and each moment in it has its reason -/
def Just (w : Wo) (st : List (Int × Int)) (k : Kn) : Prop := ∀ i x, g k i = some x → (∃ p, p ∈ st ∧ (p.1 - 1).toNat = i ∧ p.2 = x) ∨ ∃ l, l ∈ w.ls ∧ l.yes = [] ∧ (l.r - 1).toNat = i ∧ l.ar = x ∧ ∃ y, at_ k l.s = some y ∧ y ≤ l.st
theorem just_le {w : Wo} {st : List (Int × Int)} {k k' : Kn} (hk : Just w st k) (hle : ∀ i, Le (g k' i) (g k i)) {i : Nat} {x : Int} (e : g k' i = g k i) (h : g k' i = some x) : (∃ p, p ∈ st ∧ (p.1 - 1).toNat = i ∧ p.2 = x) ∨ ∃ l, l ∈ w.ls ∧ l.yes = [] ∧ (l.r - 1).toNat = i ∧ l.ar = x ∧ ∃ y, at_ k' l.s = some y ∧ y ≤ l.st := by
  rcases hk i x (by rw [← e]; exact h) with q | ⟨l, h1, h2, h3, h4, y, h5, h6⟩
  · exact .inl q
  · obtain ⟨z, h7, h8⟩ : Le (at_ k' l.s) (some y) := by
      have := hle (l.s - 1).toNat
      rw [← at_g, ← at_g, h5] at this
      exact this
    exact .inr ⟨l, h1, h2, h3, h4, z, h7, by omega⟩
theorem spread_just {w : Wo} {st : List (Int × Int)} : Just w st (spreadF w st) := by
  have h0 : Just w st (startsF (blank w) st) := by
    have : ∀ (l : List (Int × Int)) k, (∀ p, p ∈ l → p ∈ st) → Just w st k → Just w st (startsF k l) := by
      intro l k hl hk
      refine fold_mem (P := fun k => Just w st k) l k (fun p b hp hb => ?_) hk
      intro i x hx
      rcases upd_g b p.1 p.2 i with e | ⟨e, q, _⟩
      · exact just_le hb (fun i => upd_le _ _ _ _) e hx
      · rw [e] at hx
        cases hx
        exact .inl ⟨p, hl p hp, q.symm, rfl⟩
    refine this st _ (fun p hp => hp) fun i x hx => ?_
    rw [g_blank] at hx
    cases hx
  unfold spreadF
  refine fold_mem (P := fun k => Just w st k) _ _ (fun t b _ hb => ?_) h0
  unfold momF
  refine fold_mem (P := fun k => Just w st k) _ _ (fun l b hl hb => ?_) hb
  obtain ⟨l1, l2⟩ := mem_carrL.mp hl
  intro i x hx
  unfold letF at hx ⊢
  split at hx
  · rename_i z
    rw [if_pos z]
    rcases upd_g b l.r l.ar i with e | ⟨e, q, _⟩
    · exact just_le hb (fun i => upd_le _ _ _ _) e hx
    · rw [e] at hx
      cases hx
      obtain ⟨y, h7, h8⟩ := since_le.mp z.2
      obtain ⟨u, h9, h10⟩ : Le (at_ (updK b l.r l.ar) l.s) (some y) := by
        have := upd_le b l.r l.ar (l.s - 1).toNat
        rw [← at_g, ← at_g, h7] at this
        exact this
      exact .inr ⟨l, l1, l2, q.symm, rfl, u, h9, by have := z.1; omega⟩
  · rename_i z
    rw [if_neg z]
    exact hb i x hx
theorem kn_ext {a b : Kn} (hl : a.length = b.length) (h : ∀ i, i < a.length → g a i = g b i) : a = b := by
  apply List.ext_getElem hl
  intro i h1 h2
  have := h i h1
  unfold g at this
  rw [List.getElem?_eq_getElem h1, List.getElem?_eq_getElem h2] at this
  exact this
/-- the same starts, the same spread -/
theorem spread_same {w : Wo} (ok : w.ok) {a b : List (Int × Int)} (ha : StOk w a) (h : ∀ p, p ∈ a ↔ p ∈ b) : spreadF w a = spreadF w b := by
  have hb : StOk w b := fun p hp => ha p ((h p).mpr hp)
  refine kn_ext (by rw [len_spread, len_spread]) fun i _ => Le.anti ?_ ?_
  · exact low_spread (spread_closed ok a) (fun p hp => spread_hold ha p ((h p).mpr hp)) i
  · exact low_spread (spread_closed ok b) (fun p hp => spread_hold hb p ((h p).mp hp)) i
/-! the law's own spread -/
theorem count_lt {α : Type} {P Q : α → Bool} : ∀ {l : List α} {a : α}, (∀ x, P x = true → Q x = true) → a ∈ l → P a = false → Q a = true → l.countP P < l.countP Q
  | [], a, _, ha, _, _ => by cases ha
  | x :: r, a, h, ha, h1, h2 => by
    have mono : r.countP P ≤ r.countP Q := List.countP_mono_left fun x _ => h x
    rw [List.countP_cons, List.countP_cons]
    rcases List.mem_cons.mp ha with e | e
    · subst e
      rw [h1, h2]
      simp
      omega
    · have ih := count_lt h e h1 h2
      by_cases hp : P x = true
      · rw [if_pos hp, if_pos (h x hp)]
        omega
      · rw [if_neg hp]
        split <;> omega
def ltB (a b : Option Int) : Bool := match a, b with
  | some x, some y => decide (x < y)
  | _, _ => false
def rk (S : Kn) (n i : Nat) : Nat := (List.range n).countP fun j => ltB (g S j) (g S i)
theorem rk_lt {S : Kn} {n p i : Nat} (hp : p < n) (h : ltB (g S p) (g S i) = true) : rk S n p < rk S n i := by
  refine count_lt (a := p) (fun x hx => ?_) (List.mem_range.mpr hp) ?_ h
  · revert hx h
    unfold ltB
    cases g S x <;> cases g S p <;> cases g S i <;> simp
    omega
  · unfold ltB
    cases g S p <;> simp
theorem rk_le {S : Kn} {n i : Nat} (hi : i < n) : rk S n i < n := by
  have := count_lt (l := List.range n) (a := i) (P := fun j => ltB (g S j) (g S i)) (Q := fun _ => true) (fun _ _ => rfl) (List.mem_range.mpr hi) (by unfold ltB; cases g S i <;> simp) rfl
  rw [List.countP_true, List.length_range] at this
  exact this
theorem round_hit {ls : List LR} {k : Kn} {l : LR} (hl : l ∈ ls) (hy : l.yes = []) (hs : since (at_ k l.s) l.st = true) (hr : (l.r - 1).toNat < k.length) : Le (at_ (ls.foldl ownL k) l.r) (some l.ar) := by
  obtain ⟨a, b, rfl⟩ := List.append_of_mem hl
  rw [List.foldl_append, List.foldl_cons]
  have h1 : since (at_ (a.foldl ownL k) l.s) l.st = true := since_le.mpr ((round_le _).trans (since_le.mp hs))
  have hlen : (a.foldl ownL k).length = k.length := fold_mem (P := fun (b : Kn) => b.length = k.length) _ k (fun p b _ hb => by rw [len_ownL, hb]) rfl
  refine Le.trans (round_le _) ?_
  have e : ownL (a.foldl ownL k) l = updK (a.foldl ownL k) l.r l.ar := if_pos ⟨hy, h1⟩
  rw [e]
  exact upd_hit (by rw [hlen]; exact hr)
theorem own_spread {w : Wo} (ok : w.ok) {st : List (Int × Int)} (ho : StOk w st) : ownF w st = spreadF w st := by
  have hS := spread_closed ok st
  have hJ := spread_just (w := w) (st := st)
  generalize hSe : spreadF w st = S at hS hJ
  have lS : S.length = w.hc.toNat := by rw [← hSe]; exact len_spread
  have key : ∀ n, let R := (List.range n).foldl (fun k (_ : Nat) => w.ls.foldl ownL k) (startsF (blank w) st); R.length = w.hc.toNat ∧ (∀ i, Le (g R i) (g (startsF (blank w) st) i)) ∧ ∀ i, i < w.hc.toNat → rk S w.hc.toNat i ≤ n → Le (g R i) (g S i) := by
    intro n
    induction n with
    | zero =>
      refine ⟨by show (startsF (blank w) st).length = _; rw [len_starts, len_blank], fun i => Le.refl _, fun i hi hr => ?_⟩
      show Le (g (startsF (blank w) st) i) (g S i)
      cases e : g S i with
      | none => trivial
      | some x =>
        rcases hJ i x e with ⟨p, hp, h1, h2⟩ | ⟨l, l1, l2, l3, l4, y, l5, l6⟩
        · have := starts_hold (k := blank w) (st := st) (fun p hp => by have := ho p hp; rw [len_blank]; omega) p hp
          rw [at_g, h1, h2] at this
          exact this
        · exfalso
          obtain ⟨q1, q2, q3, q4, q5, q6, q7, q8, q9⟩ := ok.lw l l1
          have hp : (l.s - 1).toNat < w.hc.toNat := by omega
          have := rk_lt (S := S) (n := w.hc.toNat) (p := (l.s - 1).toNat) (i := i) hp (by rw [← at_g, l5, e]; unfold ltB; rw [decide_eq_true_iff]; omega)
          omega
    | succ n ih =>
      dsimp only at ih ⊢
      rw [List.range_succ, List.foldl_append, List.foldl_cons, List.foldl_nil]
      obtain ⟨i1, i0, i2⟩ := ih
      generalize (List.range n).foldl (fun k (_ : Nat) => w.ls.foldl ownL k) (startsF (blank w) st) = R at i1 i0 i2
      refine ⟨by rw [len_round, i1], fun i => (round_le i).trans (i0 i), fun i hi hr => ?_⟩
      by_cases hq : rk S w.hc.toNat i ≤ n
      · exact (round_le i).trans (i2 i hi hq)
      · cases e : g S i with
        | none => trivial
        | some x =>
          rcases hJ i x e with ⟨p, hp, h1, h2⟩ | ⟨l, l1, l2, l3, l4, y, l5, l6⟩
          · have := starts_hold (k := blank w) (st := st) (fun p hp => by have := ho p hp; rw [len_blank]; omega) p hp
            rw [at_g, h1, h2] at this
            exact ((round_le i).trans (i0 i)).trans this
          · obtain ⟨q1, q2, q3, q4, q5, q6, q7, q8, q9⟩ := ok.lw l l1
            have hp : (l.s - 1).toNat < w.hc.toNat := by omega
            have hlt := rk_lt (S := S) (n := w.hc.toNat) (p := (l.s - 1).toNat) (i := i) hp (by rw [← at_g, l5, e]; unfold ltB; rw [decide_eq_true_iff]; omega)
            have h1 := i2 (l.s - 1).toNat hp (by omega)
            rw [← at_g, ← at_g, l5] at h1
            have h2 : since (at_ R l.s) l.st = true := since_le.mpr (h1.trans ⟨y, rfl, l6⟩)
            have h3 := round_hit l1 l2 h2 (by rw [i1]; omega)
            rw [at_g, l3, l4] at h3
            exact h3
  obtain ⟨_, _, k2⟩ := key w.hc.toNat
  refine kn_ext (by rw [len_own, lS]) fun i hi => Le.anti ?_ ?_
  · rw [len_own] at hi
    exact k2 i hi (Nat.le_of_lt (rk_le hi))
  · rw [← hSe]
    exact low_own (spread_closed ok st) (spread_hold ho) i
/-! ranges, the greatest of the closed lists -/
theorem g_mem {k : Kn} {x : Int} (h : some x ∈ k) : ∃ i, g k i = some x := by
  obtain ⟨i, hi, e⟩ := List.getElem_of_mem h
  exact ⟨i, by unfold g; rw [List.getElem?_eq_getElem hi, e]; rfl⟩
theorem spread_rg {w : Wo} (ok : w.ok) {st : List (Int × Int)} (ho : StOk w st) : ∀ x, x ∈ spreadF w st → inRg w x := fun x hx y e => by
  subst e
  obtain ⟨i, hi⟩ := g_mem hx
  rcases spread_just i y hi with ⟨p, hp, h1, h2⟩ | ⟨l, l1, l2, l3, l4, z, l5, l6⟩
  · have := ho p hp
    omega
  · obtain ⟨q1, q2, q3, q4, q5, q6, q7, q8, q9⟩ := ok.lw l l1
    omega
theorem spread_top {w : Wo} (ok : w.ok) {cl : List Kn} (hc : Clo w cl) {st : List (Int × Int)} (ho : StOk w st) : Top w cl st (spreadF w st) where
  mem := hc.all _ len_spread (spread_rg ok ho) (open_none.mpr (spread_closed ok st))
  hold := spread_hold ho
  top := fun k hk hh i _ => low_spread (open_none.mp (hc.opn k hk)) hh i
  len := hc.len
  pos := fun k hk i hi => ((hc.rg k hk _ hi) i rfl).1
end K07
end AB

set_option Elab.async false
set_option linter.all false
set_option maxRecDepth 100000
set_option maxHeartbeats 4000000
set_option autoImplicit false
namespace AB
open PySem L2 PySem.Spec PyProof.Rows He
namespace K07
local macro_rules | `(tactic| walk_at "e") => `(tactic| repeat' (first
  | (with_reducible refine s_seq ?_) | (with_reducible refine s_if ?_) | (with_reducible refine s_drop ?_) | (with_reducible refine s_ret ?_) | (with_reducible refine s_next ?_) | (with_reducible refine s_asg ?_)
  | (with_reducible refine g_name ?_)
  | (with_reducible refine t_test ?_) | (with_reducible refine t_B ?_) | (with_reducible refine t_or ?_) | (with_reducible refine t_and ?_) | (with_reducible refine t_not ?_)
  | ((with_reducible apply e_var); rfl) | (with_reducible refine e_int ?_) | (with_reducible refine e_str ?_) | (with_reducible refine e_bl ?_) | (with_reducible refine e_non ?_)
  | (with_reducible refine e_raw ?_) | (with_reducible refine ite_tt ?_) | (with_reducible refine ite_ff ?_) | (with_reducible refine ite_ntt ?_) | (with_reducible refine ite_nff ?_) | (with_reducible refine n_isiS ?_) | (with_reducible refine n_isiL ?_) | (with_reducible refine n_isiT ?_)
  | ((with_reducible apply e_ixc); (focus rfl); (focus rfl)) | ((with_reducible apply e_ixcT); (focus rfl); (focus rfl))
  | (with_reducible refine e_op ?_) | (with_reducible refine e_un ?_) | (with_reducible refine e_cb ?_) | (with_reducible refine e_callA ?_) | (with_reducible refine e_andV ?_) | (with_reducible refine e_if ?_)
  | (with_reducible refine a_cons ?_) | (with_reducible refine a_nil ?_)
  | (with_reducible refine o_gt ?_) | (with_reducible refine o_lt ?_) | (with_reducible refine o_le ?_) | (with_reducible refine o_ge ?_) | (with_reducible refine o_add ?_) | (with_reducible refine o_sub ?_) | (with_reducible refine o_neg ?_)
  | (with_reducible refine e_tup ?_) | (with_reducible refine e_lst ?_) | (with_reducible refine exd0 ?_) | (with_reducible refine exd1 ?_) | (with_reducible refine exd2 ?_) | (with_reducible refine exd3 ?_) | (with_reducible refine exd4 ?_) | (with_reducible refine exd5 ?_) | (with_reducible refine exd6 ?_)
  | (with_reducible refine o_isNotI ?_) | (with_reducible refine o_isNotN ?_) | (with_reducible refine o_isNotS ?_) | (with_reducible refine o_isI ?_) | (with_reducible refine o_isN ?_) | (with_reducible refine o_isS ?_) | (with_reducible refine o_isT ?_)
  | (with_reducible refine t_yes ?_) | (with_reducible refine gw_name (by decide) ?_)
  | (with_reducible refine s_par ?_) | (with_reducible refine ex2 ?_) | (with_reducible refine o_eqI ?_) | (with_reducible refine o_neI ?_) | (with_reducible refine o_ixL (by assumption) (by assumption) ?_)
  | (with_reducible refine e_sl ?_) | (with_reducible refine l_none ?_) | (with_reducible refine l_some ?_)
  | (with_reducible refine n_list (by assumption) ?_)
  | (with_reducible refine s_par3 ?_) | (with_reducible refine o_isB ?_)
  | (with_reducible refine g_u2 ?_) | (with_reducible refine g_u3 ?_) | (with_reducible refine g_u4 ?_) | (with_reducible refine g_u5 ?_) | (with_reducible refine g_u6 ?_) | (with_reducible refine g_cons ?_) | (with_reducible refine g_nil ?_) | (with_reducible refine gw_u2 ?_) | (with_reducible refine gw_u3 ?_) | (with_reducible refine gw_u4 ?_) | (with_reducible refine gw_u5 ?_) | (with_reducible refine gw_u6 ?_) | (with_reducible refine gw_cons ?_) | (with_reducible refine gw_nil ?_)
  | (with_reducible refine e_chain ?_) | (with_reducible refine e_chain3 ?_) | (with_reducible refine e_orV ?_) | (with_reducible refine e_notV ?_)
  | (with_reducible refine ite_dec (fun h => absurd h (by decide)) (fun _ => ?_)) | (with_reducible refine ite_dec (fun _ => ?_) (fun h => absurd (by decide) h))
  | (with_reducible refine ite_dec (fun _ => ?_) (fun h => absurd (by omega) h)) | (with_reducible refine ite_dec (fun h => absurd h (by omega)) (fun _ => ?_))
  | (with_reducible refine ite_ndec (fun _ => ?_) (fun h => absurd h (by omega))) | (with_reducible refine ite_ndec (fun h => absurd (by omega) h) (fun _ => ?_))
  | (with_reducible refine Exists.intro _ (And.intro rfl ?_))))
local macro_rules | `(tactic| walk_at "st") => `(tactic| simp only [List.map_cons, List.map_nil, List.length_cons, List.length_nil, Nat.reduceAdd, Nat.reduceSub, List.replicate, List.cons_append, List.nil_append])
variable {K : PySem.W.Frag} {B : Base} {W : WX} {ss : List Sl} {o : O} {Rt : Sl → O → Prop} {Xt : Addr → List (Str × D) → O → Prop}
/-! ### lists of moments, read and written -/
theorem kn_at {k : Kn} {h : Int} (h1 : 1 ≤ h) (h2 : h ≤ k.length) : atI ((knL k).map Sl.da) (h - 1) = some (.da (optD (at_ k h))) := by
  have hl : (h - 1).toNat < k.length := by omega
  refine atI_of (j := (h - 1).toNat) ?_ ?_
  · unfold ixN
    rw [if_pos (by omega), if_pos (by rw [List.length_map, knL, List.length_map]; omega)]
  · unfold at_ knL
    rw [List.getElem?_map, List.getElem?_map, List.getElem?_eq_getElem hl]
    rfl
theorem kn_ix {k : Kn} {h : Int} (h1 : 1 ≤ h) (h2 : h ≤ k.length) : ixN ((knL k).map Sl.da).length (h - 1) = some (h - 1).toNat := by
  unfold ixN
  rw [if_pos (by omega), if_pos (by rw [List.length_map, knL, List.length_map]; omega)]
theorem kn_set {k : Kn} {h v : Int} : ((knL k).map Sl.da).set (h - 1).toNat (.da (.int v)) = (knL (k.set (h - 1).toNat (some v))).map Sl.da := by
  unfold knL
  rw [List.map_set, List.map_set]
  rfl
section
variable {ρ : R} {D0 : AD}
theorem e_kn {k : Kn} {h : Int} {x : Sl} {i : Nat} {th : TE} {P : Sl → O → Prop} (hi : ρ[i]? = some (some x)) (hx : LL o x ((knL k).map Sl.da)) (hh : ∀ P : Sl → O → Prop, P (.da (.int h)) o → AE B th ρ o P) (h1 : 1 ≤ h) (h2 : h ≤ k.length) (p : P (.da (optD (at_ k h))) o) :
    AE B (tOp (rIxA K) (tVar i) (tOp rSubA th (tC (.int 1)))) ρ o P := e_op (e_var hi (e_op (hh _ (e_int (o_sub (o_ixL hx (kn_at h1 h2) p))))))
theorem t_bet {v : Int} {x : Option Int} {tq tv : TE} {P : Bool → O → Prop} (hT : ∀ P : Sl → O → Prop, P (.da (optD x)) o → AE B tq ρ o P) (hv : ∀ P : Sl → O → Prop, P (.da (.int v)) o → AE B tv ρ o P) (p : P (bet v x) o) :
    AT B (tOr (tTest (tOp rIsA tq (tC .non))) (tTest (tOp rLtA tv tq))) ρ o P := by
  refine t_or (t_test (e_op (hT _ (e_non ?_))))
  cases x with
  | none => exact o_isN ⟨_, rfl, ite_tt p⟩
  | some y => exact o_isI ⟨_, rfl, ite_ff (t_test (e_op (hv _ (hT _ (o_lt ⟨_, rfl, p⟩)))))⟩
theorem t_betG {v : Int} {x : Option Int} {tq tv : TE} {P : Bool → O → Prop} (hT : ∀ P : Sl → O → Prop, P (.da (optD x)) o → AE B tq ρ o P) (hv : ∀ P : Sl → O → Prop, P (.da (.int v)) o → AE B tv ρ o P) (p : P (bet v x) o) :
    AT B (tOr (tTest (tOp rIsA tq (tC .non))) (tTest (tOp rGtA tq tv))) ρ o P := by
  refine t_or (t_test (e_op (hT _ (e_non ?_))))
  cases x with
  | none => exact o_isN ⟨_, rfl, ite_tt p⟩
  | some y => exact o_isI ⟨_, rfl, ite_ff (t_test (e_op (hT _ (hv _ (o_gt ⟨_, rfl, p⟩)))))⟩
theorem t_since {t : Int} {x : Option Int} {tq tv : TE} {P : Bool → O → Prop} (hT : ∀ P : Sl → O → Prop, P (.da (optD x)) o → AE B tq ρ o P) (hv : ∀ P : Sl → O → Prop, P (.da (.int t)) o → AE B tv ρ o P) (p : P (since x t) o) :
    AT B (tAnd (tTest (tOp rIsNotA tq (tC .non))) (tTest (tOp rLeA tq tv))) ρ o P := by
  refine t_and (t_test (e_op (hT _ (e_non ?_))))
  cases x with
  | none => exact o_isNotN ⟨_, rfl, ite_ff p⟩
  | some y => exact o_isNotI ⟨_, rfl, ite_tt (t_test (e_op (hT _ (hv _ (o_le ⟨_, rfl, p⟩)))))⟩
theorem s_upd {k : Kn} {h v : Int} {i j : Nat} {th tv : TE} (hi : ρ[i]? = some (some (.ow j))) (hk : o[j]? = some (.lst ((knL k).map Sl.da))) (hh : ∀ P : Sl → O → Prop, P (.da (.int h)) o → AE B th ρ o P) (hv : ∀ P : Sl → O → Prop, P (.da (.int v)) o → AE B tv ρ o P)
    (h1 : 1 ≤ h) (h2 : h ≤ k.length) (p : D0.nx ρ (o.set j (.lst ((knL (updK k h v)).map Sl.da)))) :
    WS B (tIfS (tOr (tTest (tOp rIsA (tOp (rIxA K) (tVar i) (tOp rSubA th (tC (.int 1)))) (tC .non))) (tTest (tOp rLtA tv (tOp (rIxA K) (tVar i) (tOp rSubA th (tC (.int 1))))))) (tAsg tv (gSub (tVar i) (tOp rSubA th (tC (.int 1))) rSetL)) tNext) D0 ρ o := by
  refine s_if (t_bet (fun P p => e_kn hi hk hh h1 h2 p) hv ?_)
  cases hb : bet v (at_ k h) with
  | true =>
    have e : updK k h v = k.set (h - 1).toNat (some v) := if_pos hb
    rw [e] at p
    refine ite_tt (s_asg (hv _ (AB.g_set (e_var hi (e_op (hh _ (e_int (o_sub ⟨j, _, h - 1, _, rfl, rfl, hk, kn_ix h1 h2, ?_⟩))))))))
    rw [kn_set]
    exact p
  | false =>
    have e : updK k h v = k := if_neg (by rw [hb]; decide)
    rw [e, set_self hk] at p
    exact ite_ff (s_next p)
theorem g_pr {d : D} {q : Int × Int} {gs : TGs} {P : R → O → Prop} (h : Pr d q) (p : AGs B gs [.da (.int q.1), .da (.int q.2)] ρ o P) : AG B (gUn K 2 gs) (.da d) ρ o P := by
  cases h with
  | t a b => exact g_u2 p
  | l a b => exact g_unL (ss := [.da (.int a), .da (.int b)]) rfl rfl p
end
theorem pr_get {ds : List D} {st : List (Int × Int)} : Paired Pr ds st → ∀ {i : Nat} {d : D}, ds[i]? = some d → ∃ q, st[i]? = some q ∧ Pr d q
  | .nil, i, d, h => by simp at h
  | .cons r t, 0, d, h => by simp at h; subst h; exact ⟨_, rfl, r⟩
  | .cons r t, i + 1, d, h => by
    have h' := h
    simp only [List.getElem?_cons_succ] at h' ⊢
    exact pr_get t h'
theorem stBad_cons {w : Wo} {p : Int × Int} {r : List (Int × Int)} : stBad w (p :: r) = if ¬(1 ≤ p.1 ∧ p.1 ≤ w.hc) then some p.1 else if ¬(0 ≤ p.2 ∧ p.2 ≤ w.last) then some p.2 else stBad w r := rfl
theorem st_bad_at {w : Wo} {st : List (Int × Int)} {i : Nat} {q : Int × Int} (h : st[i]? = some q) : st.drop i = q :: st.drop (i + 1) := by
  obtain ⟨hl, e⟩ := List.getElem?_eq_some_iff.mp h
  rw [List.drop_eq_getElem_cons hl, e]
section
variable {mg : Str → Option Value} (T : Tx K mg)
include T
theorem startsF_take {k : Kn} {st : List (Int × Int)} {i : Nat} {q : Int × Int} (h : st[i]? = some q) : startsF k (st.take (i + 1)) = updK (startsF k (st.take i)) q.1 q.2 := by
  rw [List.take_add_one, h]
  unfold startsF
  rw [List.foldl_append]
  rfl
theorem carr_get {w : Wo} {i n : Nat} (h : (carr w [])[i]? = some n) : ∃ l, w.ls[n]? = some l ∧ l.yes = [] := by
  have hm := List.mem_of_getElem? h
  unfold carr at hm
  rw [List.mem_filter, List.mem_range] at hm
  obtain ⟨h1, h2⟩ := hm
  rw [List.getElem?_eq_getElem h1] at h2
  dsimp only at h2
  rw [holds_nil] at h2
  exact ⟨_, List.getElem?_eq_getElem h1, of_decide_eq_true h2⟩
def momT (w : Wo) (k : Kn) (t : Int) (i : Nat) : Kn := (((carr w []).take i).filterMap fun n => w.ls[n]?).foldl (fun k l => letF k t l) k
omit T in
theorem momT_succ {w : Wo} {k : Kn} {t : Int} {i n : Nat} {l : LR} (h : (carr w [])[i]? = some n) (hl : w.ls[n]? = some l) : momT w k t (i + 1) = letF (momT w k t i) t l := by
  unfold momT
  rw [List.take_add_one, h, List.filterMap_append, List.foldl_append]
  simp [hl]
omit T in
theorem momT_all {w : Wo} {k : Kn} {t : Int} : momT w k t (carr w []).length = momF w k t := by
  unfold momT momF carrL
  rw [List.take_length]
def spT (w : Wo) (st : List (Int × Int)) (n : Nat) : Kn := (List.range n).foldl (fun k (t : Nat) => momF w k t) (startsF (blank w) st)
omit T in
theorem spT_succ {w : Wo} {st : List (Int × Int)} {n : Nat} : spT w st (n + 1) = momF w (spT w st n) n := by
  unfold spT
  rw [List.range_succ, List.foldl_append]
  rfl
omit T in
theorem len_momT {w : Wo} {k : Kn} {t : Int} {i : Nat} : (momT w k t i).length = k.length := fold_mem (P := fun (b : Kn) => b.length = k.length) _ k (fun p b _ hb => by rw [len_letF, hb]) rfl
omit T in
theorem len_spT {w : Wo} {st : List (Int × Int)} {n : Nat} : (spT w st n).length = w.hc.toNat := by
  unfold spT
  exact fold_mem (P := fun (b : Kn) => b.length = w.hc.toNat) _ _ (fun p b _ hb => by rw [len_momF, hb]) (by rw [len_starts, len_blank])
omit T in
theorem st_good {w : Wo} : ∀ {st : List (Int × Int)}, stBad w st = none → StOk w st
  | [], _ => fun p hp => by cases hp
  | q :: r, h => fun p hp => by
    unfold stBad at h
    split at h
    · cases h
    · split at h
      · cases h
      · rename_i a b
        rcases List.mem_cons.mp hp with e | e
        · subst e
          omega
        · exact st_good h p e
omit T in
theorem st_bad_iff {w : Wo} : ∀ {st : List (Int × Int)}, StOk w st → stBad w st = none
  | [], _ => rfl
  | q :: r, h => by
    have hq := h q (List.mem_cons_self ..)
    unfold stBad
    rw [if_neg (by omega), if_neg (by omega)]
    exact st_bad_iff fun p hp => h p (List.mem_cons_of_mem _ hp)
theorem w_spread_of (hB : B.θ.length = o.length) (c : c_spread_of K ss o Rt Xt) (hX : ∀ ρ o C' fs, Xt C' fs o → AX B W ρ o C' fs) : Wf (r_spread_of K W) 12 B ss o Rt := by
  obtain ⟨w, ds, st, rfl, ok, hp, hl, h⟩ := c
  have hlen : ds.length = st.length := Paired.len hp
  have b1 := ok.h1
  have b8 := ok.h8
  have t0 := ok.t0
  have t1 := ok.t1
  unfold Wf r_spread_of
  walk_at "st"
  walk_at "e"
  refine n_len (ss := ds.map Sl.da) rfl ?_
  walk_at "e"
  rw [show ((ds.map Sl.da).length : Int) = (st.length : Int) by simp [hlen]]
  unfold spOn at h
  refine ⟨"starts", st.length, 24, rfl, fun h1 => ?_, fun h1 => ?_⟩
  · rw [if_pos (by omega)] at h
    exact hX _ _ _ _ h
  rw [if_neg (by omega)] at h
  walk_at "e"
  refine s_for ?_
  walk_at "e"
  refine ⟨fun i ρ' o' => o' = o ∧ stBad w (st.drop i) = stBad w st ∧ ∃ u v, ρ' = [some (.da (planD K w)), some (.da (.lst ds)), u, v, none, none, none, none, none, none, none, none], ⟨rfl, rfl, _, _, rfl⟩, ?_, ?_⟩
  · rintro i d ρ' o' hd ⟨rfl, hb, u, v, rfl⟩
    obtain ⟨q, hq, hpr⟩ := pr_get hp hd
    rw [st_bad_at (w := w) hq, stBad_cons] at hb
    refine g_pr hpr ?_
    walk_at "e"
    refine ⟨w, q.1, rfl, fun hbad => ?_, fun g1 g2 => ?_⟩
    · rw [if_pos hbad] at hb
      rw [← hb] at h
      exact hX _ _ _ _ h
    rw [if_neg (by omega)] at hb
    walk_at "e"
    refine ⟨w, q.2, rfl, fun hbad => ?_, fun g3 g4 => ?_⟩
    · rw [if_pos hbad] at hb
      rw [← hb] at h
      exact hX _ _ _ _ h
    rw [if_neg (by omega)] at hb
    walk_at "e"
    exact ⟨rfl, hb, _, _, rfl⟩
  rintro ρ' o' ⟨rfl, hb, u, v, rfl⟩
  rw [hlen, List.drop_length] at hb
  rw [← hb] at h
  have hst := st_good hb.symm
  have h : ownRt o' (knL (spreadF w st)) Rt := h
  clear hb
  refine s_seq (s_asg (e_lcR1O (a_cons (e_pm (w := w) rfl (e_var rfl ⟨rfl, a_nil ⟨w, rfl, a_nil ⟨w.hc, rfl, by omega, by omega, fun i acc o2 => o2 = o' ∧ i ≤ w.hc.toNat ∧ acc = List.replicate i D.non, ⟨rfl, Nat.zero_le _, rfl⟩, ?_, ?_, ?_⟩⟩⟩)))))
  · rintro i acc o2 ⟨rfl, hi, rfl⟩
    rw [List.length_replicate]
    omega
  · rintro i acc o2 hi ⟨rfl, _, rfl⟩
    refine gw_name (by simp) (t_yes (ite_tt (e_non ⟨.non, rfl, rfl, by omega, ?_⟩)))
    rw [List.replicate_succ']
  rintro acc o2 ⟨rfl, _, rfl⟩
  have eb : List.replicate w.hc.toNat D.non = knL (blank w) := by unfold knL blank; rw [List.map_replicate]; rfl
  rw [eb]
  refine g_name (s_seq (s_for ?_))
  walk_at "e"
  refine ⟨fun i ρ' o' => o' = o2 ++ [.lst ((knL (startsF (blank w) (st.take i))).map Sl.da)] ∧ ∃ u v, ρ' = [some (.da (planD K w)), some (.da (.lst ds)), u, v, some (.ow o2.length), none, none, none, none, none, none, none], ⟨rfl, _, _, rfl⟩, ?_, ?_⟩
  · rintro i d ρ' o' hd ⟨rfl, u, v, rfl⟩
    obtain ⟨q, hq, hpr⟩ := pr_get hp hd
    have hs := hst q (List.mem_of_getElem? hq)
    refine g_pr hpr ?_
    refine g_cons (g_name (g_cons (g_name (g_nil ?_))))
    refine s_upd (k := startsF (blank w) (st.take i)) (h := q.1) (v := q.2) rfl get_new (fun P p => e_var rfl p) (fun P p => e_var rfl p) hs.1 (by rw [len_starts, len_blank]; omega) ⟨?_, _, _, rfl⟩
    rw [set_new, ← startsF_take T hq]
  rintro ρ' o' ⟨rfl, u, v, rfl⟩
  rw [hlen, List.take_length]
  refine s_seq (s_asg (e_pm (w := w) rfl (e_var rfl ⟨rfl, a_nil ⟨w, rfl, ok, g_name ?_⟩⟩)))
  obtain ⟨ct, hct⟩ := ok.c0
  refine s_seq (s_asg (e_frz (e_pm (w := w) rfl (e_var rfl ⟨rfl, a_cons (e_int (a_nil ⟨w, 0, rfl, ok, fun z => absurd ⟨Int.le_refl _, by rw [hct, List.length_cons]; omega⟩ z, fun r _ hr n o3 f3 hn ho3 => ?_⟩))⟩))))
  have er : r = [] := by
    rw [hct, at0] at hr
    exact (Option.some.inj hr).symm
  subst er
  have hn' : o2.length + 1 ≤ n := by rw [List.length_append] at hn; exact hn
  refine ⟨n, _, _, rfl, by omega, ho3, .lst _, g_name ?_⟩
  have hk3 : (o3.set n .gone)[o2.length]? = some (.lst ((knL (startsF (blank w) st)).map Sl.da)) := by
    rw [List.getElem?_set_ne (by omega)]
    exact f3.get get_new
  have F3 : Fp o2 (o3.set n .gone) := ((Fp.refl o2).add _ |>.trans f3).set (by omega)
  generalize o3.set n .gone = o4 at hk3 F3
  refine s_seq (s_range1 (a_cons (e_op (e_pm (w := w) rfl (e_var rfl ⟨rfl, a_nil ⟨w, rfl, e_int (o_add (a_nil ⟨_, rfl, by omega, by omega, fun i ρ' o' => Fp o2 o' ∧ o'[o2.length]? = some (.lst ((knL (spT w st i)).map Sl.da)) ∧ ∃ a b c d e f g, ρ' = [some (.da (planD K w)), some (.da (.lst ds)), a, b, some (.ow o2.length), some (.da (.lst (w.ls.map LR.d))), some (.da (.lst (natD (carr w [])))), c, d, e, f, g], ⟨F3, hk3, _, _, _, _, _, _, _, rfl⟩, ?_, ?_⟩))⟩⟩)))))
  · rintro t ρ' o' ht ⟨F5, hk5, a, b, c, d, e, f, g, rfl⟩
    refine g_name (s_for (e_var rfl ⟨_, rfl, fun i ρ' o' => Fp o2 o' ∧ o'[o2.length]? = some (.lst ((knL (momT w (spT w st t) t i)).map Sl.da)) ∧ ∃ a c d e f g, ρ' = [some (.da (planD K w)), some (.da (.lst ds)), a, some (.da (.int t)), some (.ow o2.length), some (.da (.lst (w.ls.map LR.d))), some (.da (.lst (natD (carr w [])))), c, d, e, f, g], ⟨F5, hk5, _, _, _, _, _, _, rfl⟩, ?_, ?_⟩))
    · rintro i d0 ρ' o6 hd0 ⟨F6, hk6, a, c, d, e, f, g, rfl⟩
      obtain ⟨n, hn, _, rfl, _⟩ := map_get hd0
      obtain ⟨l, hl, _⟩ := carr_get T hn
      obtain ⟨q1, q2, q3, q4, q5, q6, q7, q8, q9⟩ := ok.lw l (List.mem_of_getElem? hl)
      have e1 : atI (w.ls.map LR.d) (n : Int) = some (LR.d l) := atI_map (atI_nat hl)
      have hlk : (momT w (spT w st t) t i).length = w.hc.toNat := by rw [len_momT, len_spT]
      have hm := momT_succ (k := spT w st t) (t := (t : Int)) hn hl
      refine g_name (s_seq (s_asg (e_sl (e_op (e_var rfl (e_var rfl (o_ix e1 (l_none (l_some (e_int ⟨_, rfl, wl_tup ?_⟩))))))))))
      have ec : cutD [D.int l.s, .int l.st, .int l.r, .int l.ar, .lst (txs l.yes), .lst (txs l.no)] none (some 4) = [D.int l.s, .int l.st, .int l.r, .int l.ar] := rfl
      rw [ec]
      refine g_u4 (g_cons (g_name (g_cons (g_name (g_cons (g_name (g_cons (g_name (g_nil ?_)))))))))
      refine s_if (t_and (t_test (e_op (e_var rfl (e_var rfl (o_eqI ⟨_, rfl, ?_⟩))))))
      refine ite_dec (fun he => ?_) fun he => ?_
      · refine t_since (x := at_ (momT w (spT w st t) t i) l.s) (t := (t : Int)) (fun P p => e_kn (x := .ow o2.length) rfl hk6 (fun P p => e_var rfl p) q1 (by rw [hlk]; omega) p) (fun P p => e_var rfl p) ?_
        refine ite_b (fun hs => ?_) fun hs => ?_
        · refine s_upd (k := momT w (spT w st t) t i) (h := l.r) (v := l.ar) rfl hk6 (fun P p => e_var rfl p) (fun P p => e_var rfl p) q3 (by rw [hlk]; omega) ⟨F6.set (Nat.le_refl _), ?_, _, _, _, _, _, _, rfl⟩
          rw [List.getElem?_set_self (List.getElem?_eq_some_iff.mp hk6).1, hm]
          unfold letF
          rw [if_pos ⟨he, hs⟩]
        · refine s_next ⟨F6, ?_, _, _, _, _, _, _, rfl⟩
          rw [hm]
          unfold letF
          rw [if_neg (fun z => by rw [hs] at z; exact absurd z.2 (by decide))]
          exact hk6
      · refine ite_ff (s_next ⟨F6, ?_, _, _, _, _, _, _, rfl⟩)
        rw [hm]
        unfold letF
        rw [if_neg (fun z => he z.1)]
        exact hk6
    · rintro ρ' o6 ⟨F6, hk6, a, c, d, e, f, g, rfl⟩
      refine ⟨F6, ?_, _, _, _, _, _, _, _, rfl⟩
      rw [natD, List.length_map, momT_all, ← spT_succ] at hk6
      exact hk6
  rintro ρ' o' ⟨F5, hk5, a, b, c, d, e, f, g, rfl⟩
  exact s_ret (e_var rfl (h o2.length o' F5 (Nat.le_refl _) hk5))
theorem w_reach_of (c : c_reach_of K ss o Rt Xt) (hX : ∀ ρ o C' fs, Xt C' fs o → AX B W ρ o C' fs) : Wf (r_reach_of K W) 3 B ss o Rt := by
  obtain ⟨w, a, m, rfl, ok, h⟩ := c
  unfold Wf r_reach_of
  walk_at "st"
  walk_at "e"
  refine ⟨w, _, [(a, m)], rfl, ok, .cons (.t a m) .nil, Nat.le_of_ble_eq_true rfl, ?_⟩
  unfold spOn at h ⊢
  rw [if_neg (by simp)] at h ⊢
  cases e : stBad w [(a, m)] with
  | some b =>
    rw [e] at h
    exact hX _ _ _ _ h
  | none =>
    rw [e] at h
    exact h
theorem w_check_knowing (c : c_check_knowing K ss o Rt Xt) (hX : ∀ ρ o C' fs, Xt C' fs o → AX B W ρ o C' fs) : Wf (r_check_knowing K W) 3 B ss o Rt := by
  obtain ⟨w, k, rfl, h⟩ := c
  unfold Wf r_check_knowing
  walk_at "st"
  unfold knOn kBad at h
  refine s_for (e_var rfl ⟨knL k, rfl, fun i ρ' o' => o' = o ∧ (k.drop i).find? (bad1 w) = k.find? (bad1 w) ∧ ∃ u, ρ' = [some (.da (planD K w)), some (.da (knD k)), u], ⟨rfl, rfl, _, rfl⟩, ?_, ?_⟩)
  · rintro i d ρ' o' hd ⟨rfl, hb, u, rfl⟩
    obtain ⟨x, hx, hm, rfl, hi⟩ := map_get hd
    rw [List.drop_eq_getElem_cons hi, (List.getElem?_eq_some_iff.mp hx).2, List.find?_cons] at hb
    walk_at "e"
    cases x with
    | none =>
      refine o_isNotN ?_
      walk_at "e"
      exact ⟨rfl, hb, _, rfl⟩
    | some m =>
      refine o_isNotI ?_
      walk_at "e"
      refine ⟨w, m, rfl, fun hbad => ?_, fun g1 g2 => ?_⟩
      · have e : bad1 w (some m) = true := by unfold bad1; dsimp only; rw [decide_eq_false hbad]; rfl
        rw [e] at hb
        rw [← hb] at h
        exact hX _ _ _ _ h
      · have e : bad1 w (some m) = false := by unfold bad1; dsimp only; rw [decide_eq_true ⟨g1, g2⟩]; rfl
        rw [e] at hb
        walk_at "e"
        exact ⟨rfl, hb, _, rfl⟩
  · rintro ρ' o' ⟨rfl, hb, u, rfl⟩
    rw [knL, List.length_map, List.drop_length] at hb
    rw [← hb] at h
    exact h
end
end K07
end AB

set_option Elab.async false
set_option linter.all false
set_option maxRecDepth 100000
set_option maxHeartbeats 4000000
set_option autoImplicit false
namespace AB
open PySem L2 PySem.Spec PyProof.Rows He
namespace K07
local macro_rules | `(tactic| walk_at "e") => `(tactic| repeat' (first
  | (with_reducible refine s_seq ?_) | (with_reducible refine s_if ?_) | (with_reducible refine s_drop ?_) | (with_reducible refine s_ret ?_) | (with_reducible refine s_next ?_) | (with_reducible refine s_asg ?_)
  | (with_reducible refine g_name ?_)
  | (with_reducible refine t_test ?_) | (with_reducible refine t_B ?_) | (with_reducible refine t_or ?_) | (with_reducible refine t_and ?_) | (with_reducible refine t_not ?_)
  | ((with_reducible apply e_var); rfl) | (with_reducible refine e_int ?_) | (with_reducible refine e_str ?_) | (with_reducible refine e_bl ?_) | (with_reducible refine e_non ?_)
  | (with_reducible refine e_raw ?_) | (with_reducible refine ite_tt ?_) | (with_reducible refine ite_ff ?_) | (with_reducible refine ite_ntt ?_) | (with_reducible refine ite_nff ?_) | (with_reducible refine n_isiS ?_) | (with_reducible refine n_isiL ?_) | (with_reducible refine n_isiT ?_)
  | ((with_reducible apply e_ixc); (focus rfl); (focus rfl)) | ((with_reducible apply e_ixcT); (focus rfl); (focus rfl))
  | (with_reducible refine e_op ?_) | (with_reducible refine e_un ?_) | (with_reducible refine e_cb ?_) | (with_reducible refine e_callA ?_) | (with_reducible refine e_andV ?_) | (with_reducible refine e_if ?_)
  | (with_reducible refine a_cons ?_) | (with_reducible refine a_nil ?_)
  | (with_reducible refine o_gt ?_) | (with_reducible refine o_lt ?_) | (with_reducible refine o_le ?_) | (with_reducible refine o_ge ?_) | (with_reducible refine o_add ?_) | (with_reducible refine o_sub ?_) | (with_reducible refine o_neg ?_)
  | (with_reducible refine e_tup ?_) | (with_reducible refine e_lst ?_) | (with_reducible refine exd0 ?_) | (with_reducible refine exd1 ?_) | (with_reducible refine exd2 ?_) | (with_reducible refine exd3 ?_) | (with_reducible refine exd4 ?_) | (with_reducible refine exd5 ?_) | (with_reducible refine exd6 ?_)
  | (with_reducible refine o_isNotI ?_) | (with_reducible refine o_isNotN ?_) | (with_reducible refine o_isNotS ?_) | (with_reducible refine o_isI ?_) | (with_reducible refine o_isN ?_) | (with_reducible refine o_isS ?_) | (with_reducible refine o_isT ?_)
  | (with_reducible refine t_yes ?_) | (with_reducible refine gw_name (by decide) ?_)
  | (with_reducible refine s_par ?_) | (with_reducible refine ex2 ?_) | (with_reducible refine o_eqI ?_) | (with_reducible refine o_neI ?_) | (with_reducible refine o_ixL (by assumption) (by assumption) ?_)
  | (with_reducible refine e_sl ?_) | (with_reducible refine l_none ?_) | (with_reducible refine l_some ?_)
  | (with_reducible refine n_list (by assumption) ?_)
  | (with_reducible refine s_par3 ?_) | (with_reducible refine o_isB ?_)
  | (with_reducible refine g_u2 ?_) | (with_reducible refine g_u3 ?_) | (with_reducible refine g_u4 ?_) | (with_reducible refine g_u5 ?_) | (with_reducible refine g_u6 ?_) | (with_reducible refine g_cons ?_) | (with_reducible refine g_nil ?_) | (with_reducible refine gw_u2 ?_) | (with_reducible refine gw_u3 ?_) | (with_reducible refine gw_u4 ?_) | (with_reducible refine gw_u5 ?_) | (with_reducible refine gw_u6 ?_) | (with_reducible refine gw_cons ?_) | (with_reducible refine gw_nil ?_)
  | (with_reducible refine e_chain ?_) | (with_reducible refine e_chain3 ?_) | (with_reducible refine e_orV ?_) | (with_reducible refine e_notV ?_)
  | (with_reducible refine ite_dec (fun h => absurd h (by decide)) (fun _ => ?_)) | (with_reducible refine ite_dec (fun _ => ?_) (fun h => absurd (by decide) h))
  | (with_reducible refine ite_dec (fun _ => ?_) (fun h => absurd (by omega) h)) | (with_reducible refine ite_dec (fun h => absurd h (by omega)) (fun _ => ?_))
  | (with_reducible refine ite_ndec (fun _ => ?_) (fun h => absurd h (by omega))) | (with_reducible refine ite_ndec (fun h => absurd (by omega) h) (fun _ => ?_))
  | (with_reducible refine Exists.intro _ (And.intro rfl ?_))))
local macro_rules | `(tactic| walk_at "st") => `(tactic| simp only [List.map_cons, List.map_nil, List.length_cons, List.length_nil, Nat.reduceAdd, Nat.reduceSub, List.replicate, List.cons_append, List.nil_append])
variable {K : PySem.W.Frag} {B : Base} {W : WX} {ss : List Sl} {o : O} {Rt : Sl → O → Prop} {Xt : Addr → List (Str × D) → O → Prop}
section
variable {ρ : R} {D0 : AD}
theorem e_eqnil {te : TE} {l : List Str} {P : Sl → O → Prop} (h : ∀ P : Sl → O → Prop, P (.da (.lst (txs l))) o → AE B te ρ o P) (p : P (.da (.bl (decide (l = [])))) o) : AE B (tOp (rEqP K) te (tLst tNil)) ρ o P := by
  refine e_op (h _ (e_lst (a_nil (exd0 (o_eq (y := .lst (txs [])) pl_txs rfl (by rw [dep_lst]; exact Nat.le_trans (Nat.min_le_left _ _) (by decide)) ?_)))))
  rw [eqv_txs]
  exact p
theorem optN_raw {x : Option Int} : ∀ w, Sl.da (optD x) ≠ .da (.raw w) := fun w z => by cases x <;> cases z
theorem LL.knS {o : O} {k : Kn} : LL o (.da (knD k)) ((knL k).map Sl.da) := rfl
end
section
variable {mg : Str → Option Value} (T : Tx K mg)
include T
omit T in
theorem carr_lt (w : Wo) : (carr w []).Pairwise (· < ·) := List.Pairwise.filter _ List.pairwise_lt_range
omit T in
theorem carr_mem {w : Wo} {n : Nat} : n ∈ carr w [] ↔ ∃ l, w.ls[n]? = some l ∧ l.yes = [] := by
  constructor
  · intro h
    unfold carr at h
    rw [List.mem_filter, List.mem_range] at h
    obtain ⟨h1, h2⟩ := h
    rw [List.getElem?_eq_getElem h1] at h2
    dsimp only at h2
    rw [holds_nil] at h2
    exact ⟨_, List.getElem?_eq_getElem h1, of_decide_eq_true h2⟩
  · rintro ⟨l, h1, h2⟩
    unfold carr
    rw [List.mem_filter, List.mem_range, h1]
    refine ⟨(List.getElem?_eq_some_iff.mp h1).1, ?_⟩
    dsimp only
    rw [holds_nil, h2]
    rfl
omit T in
theorem open_at {w : Wo} {k : Kn} {i n : Nat} {l : LR} (hn : (carr w [])[i]? = some n) (hl : w.ls[n]? = some l) (ho : opn k l = true) (hb : ∀ m l', m ∈ (carr w []).take i → w.ls[m]? = some l' → opn k l' = false) : openF w k = some n := by
  unfold openF
  rw [List.findIdx?_eq_some_iff_getElem]
  obtain ⟨h1, e1⟩ := List.getElem?_eq_some_iff.mp hl
  refine ⟨h1, by rw [e1]; exact ho, fun m hm => ?_⟩
  have hml : w.ls[m]? = some w.ls[m] := List.getElem?_eq_getElem (by omega)
  by_cases hy : w.ls[m].yes = []
  · have hc : m ∈ carr w [] := carr_mem.mpr ⟨_, hml, hy⟩
    obtain ⟨j, hj, ej⟩ := List.getElem_of_mem hc
    obtain ⟨hi, ei⟩ := List.getElem?_eq_some_iff.mp hn
    have hji : j < i := by
      rcases Nat.lt_trichotomy j i with q | q | q
      · exact q
      · subst q; omega
      · have := List.pairwise_iff_getElem.mp (carr_lt w) i j hi hj q
        omega
    have := hb m _ (List.mem_iff_getElem?.mpr ⟨j, by rw [List.getElem?_take, if_pos hji, List.getElem?_eq_getElem hj, ej]⟩) hml
    rw [this]
    decide
  · unfold opn
    rw [decide_eq_false hy]
    simp
omit T in
theorem open_no {w : Wo} {k : Kn} (hb : ∀ m l', m ∈ carr w [] → w.ls[m]? = some l' → opn k l' = false) : openF w k = none := by
  unfold openF
  rw [List.findIdx?_eq_none_iff]
  intro l hl
  obtain ⟨m, hm, e⟩ := List.getElem_of_mem hl
  by_cases hy : l.yes = []
  · exact hb m l (carr_mem.mpr ⟨l, by rw [List.getElem?_eq_getElem hm, e], hy⟩) (by rw [List.getElem?_eq_getElem hm, e])
  · unfold opn
    rw [decide_eq_false hy]
    rfl
def ownT (w : Wo) (st : List (Int × Int)) (n : Nat) : Kn := (List.range n).foldl (fun k (_ : Nat) => w.ls.foldl ownL k) (startsF (blank w) st)
theorem w_judge_knowing (hB : B.θ.length = o.length) (c : c_judge_knowing K ss o Rt Xt) (hX : ∀ ρ o C' fs, Xt C' fs o → AX B W ρ o C' fs) : Wf (r_judge_knowing K W) 8 B ss o Rt := by
  obtain ⟨w, k, rfl, ok, hl, h⟩ := c
  unfold Wf r_judge_knowing
  walk_at "st"
  have b1 := ok.h1
  refine s_seq (s_drop (e_callA (a_cons (e_var rfl (a_cons (e_var rfl (a_nil ⟨w, k, rfl, ?_⟩)))))))
  unfold knOn at h ⊢
  cases hkb : kBad w k with
  | some m =>
    rw [hkb] at h
    exact hX _ _ _ _ h
  | none =>
  rw [hkb] at h
  have h : ∀ o', Fp o o' → Rt (.da (optN (openF w k))) o' := h
  refine s_seq (s_asg (e_pm (w := w) rfl (e_var rfl ⟨rfl, a_nil ⟨w, rfl, ok, g_name ?_⟩⟩)))
  obtain ⟨ct, hct⟩ := ok.c0
  refine s_seq (s_for (e_frz (e_pm (w := w) rfl (e_var rfl ⟨rfl, a_cons (e_int (a_nil ⟨w, 0, rfl, ok, fun z => absurd ⟨Int.le_refl _, by rw [hct, List.length_cons]; omega⟩ z, fun r _ hr n o3 f3 hn ho3 => ?_⟩))⟩))))
  have er : r = [] := by
    rw [hct, at0] at hr
    exact (Option.some.inj hr).symm
  subst er
  refine ⟨n, _, _, rfl, by omega, ho3, .lst (natD (carr w [])), natD (carr w []), rfl, fun i ρ' o' => Fp o o' ∧ (∀ m l', m ∈ (carr w []).take i → w.ls[m]? = some l' → opn k l' = false) ∧ ∃ a b c d e, ρ' = [some (.da (planD K w)), some (.da (knD k)), some (.da (.lst (w.ls.map LR.d))), a, b, c, d, e], ⟨f3.set hn, fun m l' z => (by rw [List.take_zero] at z; cases z), _, _, _, _, _, rfl⟩, ?_, ?_⟩
  · rintro i d0 ρ' o6 hd0 ⟨F6, hb, a, b, c, d, e, rfl⟩
    obtain ⟨n', hn', _, rfl, _⟩ := map_get hd0
    obtain ⟨l, hll, hly⟩ := carr_get T hn'
    obtain ⟨q1, q2, q3, q4, q5, q6, q7, q8, q9⟩ := ok.lw l (List.mem_of_getElem? hll)
    have e1 : atI (w.ls.map LR.d) (n' : Int) = some (LR.d l) := atI_map (atI_nat hll)
    have next : opn k l = false → ∀ m l', m ∈ (carr w []).take (i + 1) → w.ls[m]? = some l' → opn k l' = false := fun hno m l' hm hl' => by
      rw [List.take_add_one, hn'] at hm
      rcases List.mem_append.mp hm with q | q
      · exact hb m l' q hl'
      · have em : m = n' := by simpa using q
        subst em
        rw [hll] at hl'
        cases hl'
        exact hno
    refine g_name (s_seq (s_asg (e_sl (e_op (e_var rfl (e_var rfl (o_ix e1 (l_none (l_some (e_int ⟨_, rfl, wl_tup ?_⟩))))))))))
    have ec : cutD [D.int l.s, .int l.st, .int l.r, .int l.ar, .lst (txs l.yes), .lst (txs l.no)] none (some 4) = [D.int l.s, .int l.st, .int l.r, .int l.ar] := rfl
    rw [ec]
    refine g_u4 (g_cons (g_name (g_cons (g_name (g_cons (g_name (g_cons (g_name (g_nil ?_)))))))))
    have eo : opn k l = (since (at_ k l.s) l.st && bet l.ar (at_ k l.r)) := by
      unfold opn
      rw [decide_eq_true hly]
      rfl
    refine s_if (t_since (x := at_ k l.s) (t := l.st) (fun P p => e_kn (x := .da (knD k)) rfl LL.knS (fun P p => e_var rfl p) q1 (by rw [hl]; omega) p) (fun P p => e_var rfl p) ?_)
    refine ite_b (fun hs => ?_) fun hs => ?_
    · refine s_if (t_betG (x := at_ k l.r) (v := l.ar) (fun P p => e_kn (x := .da (knD k)) rfl LL.knS (fun P p => e_var rfl p) q3 (by rw [hl]; omega) p) (fun P p => e_var rfl p) ?_)
      refine ite_b (fun hbt => ?_) fun hbt => ?_
      · refine s_ret (e_var rfl ?_)
        have := h o6 F6
        rw [open_at hn' hll (by rw [eo, hs, hbt]; rfl) hb] at this
        exact this
      · exact s_next ⟨F6, next (by rw [eo, hs, hbt]; rfl), _, _, _, _, _, rfl⟩
    · exact s_next ⟨F6, next (by rw [eo, hs]; rfl), _, _, _, _, _, rfl⟩
  · rintro ρ' o6 ⟨F6, hb, a, b, c, d, e, rfl⟩
    rw [natD, List.length_map, List.take_length] at hb
    refine s_ret (e_non ?_)
    have := h o6 F6
    rw [open_no hb] at this
    exact this
omit T in
theorem filt_take {ds : List DR} {p : DR → Bool} {i : Nat} {r : DR} (h : ds[i]? = some r) : ((ds.take (i + 1)).filter p).map DR.n = ((ds.take i).filter p).map DR.n ++ (if p r = true then [r.n] else []) := by
  rw [List.take_add_one, h, List.filter_append, List.map_append]
  show _ ++ ((List.filter p [r]).map DR.n) = _
  rw [List.filter_cons, List.filter_nil]
  split <;> rfl
theorem w_takers_of (c : c_takers_of K ss o Rt Xt) (hX : ∀ ρ o C' fs, Xt C' fs o → AX B W ρ o C' fs) : Wf (r_takers_of K W) 5 B ss o Rt := by
  obtain ⟨w, k, rfl, ok, hl, h⟩ := c
  unfold Wf r_takers_of
  walk_at "st"
  have b1 := ok.h1
  have a5 := ok.nd
  refine s_seq (s_drop (e_callA (a_cons (e_var rfl (a_cons (e_var rfl (a_nil ⟨w, k, rfl, ?_⟩)))))))
  unfold knOn at h ⊢
  cases hkb : kBad w k with
  | some m =>
    rw [hkb] at h
    exact hX _ _ _ _ h
  | none =>
  rw [hkb] at h
  have h : ownRt o (txs (takersF w k)) Rt := h
  refine s_seq (s_asg (e_lstO (a_nil ⟨Nat.zero_le _, g_name ?_⟩)))
  refine s_seq (s_for (e_pm (w := w) rfl (e_var rfl ⟨rfl, a_nil ⟨w, rfl, _, rfl, fun i ρ' o' => o' = o ++ [.lst (sls (((w.ds.take i).filter fun r => since (at_ k r.h) r.m).map DR.n))] ∧ ∃ a b, ρ' = [some (.da (planD K w)), some (.da (knD k)), some (.ow o.length), a, b], ⟨rfl, _, _, rfl⟩, ?_, ?_⟩⟩)))
  · rintro i d ρ' o' hd ⟨rfl, a, b, rfl⟩
    obtain ⟨r, hr, hm, rfl, hi⟩ := map_get hd
    obtain ⟨q1, q2, q3, q4, q5, q6⟩ := ok.dw r hm
    have ht := filt_take (p := fun r => since (at_ k r.h) r.m) hr
    refine g_name (s_seq (s_asg (e_kn (k := k) (h := r.h) (x := .da (knD k)) rfl LL.knS (fun P p => e_ixcT rfl rfl p) q2 (by rw [hl]; omega) (g_name ?_))))
    refine s_if (t_since (x := at_ k r.h) (t := r.m) (fun P p => e_var rfl p) (fun P p => e_ixcT rfl rfl p) ?_)
    refine ite_b (fun hs => ?_) fun hs => ?_
    · rw [if_pos hs] at ht
      refine s_drop (e_app (acc := txs (((w.ds.take i).filter fun r => since (at_ k r.h) r.m).map DR.n)) rfl get_new ?_ ?_)
      · simp only [txs, List.length_map]
        exact Nat.le_trans (List.length_filter_le _ _) (by rw [List.length_take]; omega)
      refine a_cons (e_ixcT rfl rfl (a_nil ⟨.str r.n, rfl, rfl, ?_, _, _, rfl⟩))
      rw [set_new, txs_app, ← ht]
    · rw [if_neg (by rw [hs]; decide), List.append_nil] at ht
      exact s_next ⟨by rw [ht], _, _, rfl⟩
  · rintro ρ' o' ⟨rfl, a, b, rfl⟩
    rw [List.length_map, List.take_length]
    exact s_ret (e_var rfl (h _ _ ⟨_, rfl⟩ (Nat.le_refl _) get_new))
theorem w__law_own_takers (c : c__law_own_takers K ss o Rt Xt) : Wf (r__law_own_takers K W) 4 B ss o Rt := by
  obtain ⟨w, k, rfl, ok, hl, h⟩ := c
  unfold Wf r__law_own_takers
  walk_at "st"
  have b1 := ok.h1
  have a5 := ok.nd
  refine s_seq (s_asg (e_lstO (a_nil ⟨Nat.zero_le _, g_name ?_⟩)))
  refine s_seq (s_for (e_ixc (ds := w.parts) (d := .lst (w.ds.map DR.d)) rfl rfl ⟨_, rfl, fun i ρ' o' => o' = o ++ [.lst (sls (((w.ds.take i).filter fun r => since (at_ k r.h) r.m).map DR.n))] ∧ ∃ a, ρ' = [some (.da (worldD w)), some (.da (knD k)), some (.ow o.length), a], ⟨rfl, _, rfl⟩, ?_, ?_⟩))
  · rintro i d ρ' o' hd ⟨rfl, a, rfl⟩
    obtain ⟨r, hr, hm, rfl, hi⟩ := map_get hd
    obtain ⟨q1, q2, q3, q4, q5, q6⟩ := ok.dw r hm
    have ht := filt_take (p := fun r => since (at_ k r.h) r.m) hr
    refine g_name (s_if (t_since (x := at_ k r.h) (t := r.m) (fun P p => e_kn (k := k) (h := r.h) (x := .da (knD k)) rfl LL.knS (fun P p => e_ixcT rfl rfl p) q2 (by rw [hl]; omega) p) (fun P p => e_ixcT rfl rfl p) ?_))
    refine ite_b (fun hs => ?_) fun hs => ?_
    · rw [if_pos hs] at ht
      refine s_drop (e_app (acc := txs (((w.ds.take i).filter fun r => since (at_ k r.h) r.m).map DR.n)) rfl get_new ?_ ?_)
      · simp only [txs, List.length_map]
        exact Nat.le_trans (List.length_filter_le _ _) (by rw [List.length_take]; omega)
      refine a_cons (e_ixcT rfl rfl (a_nil ⟨.str r.n, rfl, rfl, ?_, _, rfl⟩))
      rw [set_new, txs_app, ← ht]
    · rw [if_neg (by rw [hs]; decide), List.append_nil] at ht
      exact s_next ⟨by rw [ht], _, rfl⟩
  · rintro ρ' o' ⟨rfl, a, rfl⟩
    rw [List.length_map, List.take_length]
    exact s_ret (e_var rfl (h _ _ ⟨_, rfl⟩ (Nat.le_refl _) get_new))
theorem w__law_open_letter (c : c__law_open_letter K ss o Rt Xt) : Wf (r__law_open_letter K W) 11 B ss o Rt := by
  obtain ⟨w, k, rfl, ok, hl, h⟩ := c
  unfold Wf r__law_open_letter
  walk_at "st"
  have b1 := ok.h1
  have a8 := ok.nl
  refine s_seq (s_range1 (a_cons (e_cb (a_cons (e_ixc (ds := w.parts) (d := .lst (w.ls.map LR.d)) rfl rfl (a_nil (n_len (ss := (w.ls.map LR.d).map Sl.da) rfl (a_nil ⟨_, rfl, by simp only [List.length_map]; omega, by simp only [List.length_map]; omega, fun i ρ' o' => o' = o ∧ (∀ m l', m < i → w.ls[m]? = some l' → opn k l' = false) ∧ ∃ a b c d e f g h u, ρ' = [some (.da (worldD w)), some (.da (knD k)), a, b, c, d, e, f, g, h, u], ⟨rfl, fun m l' z => absurd z (Nat.not_lt_zero _), _, _, _, _, _, _, _, _, _, rfl⟩, ?_, ?_⟩))))))))
  · rintro i ρ' o' hi ⟨rfl, hb, x1, x2, x3, x4, x5, x6, x7, x8, x9, rfl⟩
    have hi' : i < w.ls.length := by simpa using hi
    have hx : w.ls[i]? = some w.ls[i] := List.getElem?_eq_getElem hi'
    obtain ⟨l, hll⟩ : ∃ l, l = w.ls[i] := ⟨_, rfl⟩
    rw [← hll] at hx
    obtain ⟨q1, q2, q3, q4, q5, q6, q7, q8, q9⟩ := ok.lw l (List.mem_of_getElem? hx)
    have e1 : atI (w.ls.map LR.d) (i : Int) = some (LR.d l) := atI_map (atI_nat hx)
    have next : opn k l = false → ∀ m l', m < i + 1 → w.ls[m]? = some l' → opn k l' = false := fun hno m l' hm hl' => by
      by_cases q : m < i
      · exact hb m l' q hl'
      · have em : m = i := by omega
        subst em
        rw [hx] at hl'
        cases hl'
        exact hno
    refine g_name (s_seq (s_asg (e_op (e_ixc (ds := w.parts) (d := .lst (w.ls.map LR.d)) rfl rfl (e_var rfl (o_ix e1 (g_u6 (g_cons (g_name (g_cons (g_name (g_cons (g_name (g_cons (g_name (g_cons (g_name (g_cons (g_name (g_nil ?_))))))))))))))))))))
    refine s_seq (s_par (a_cons (e_kn (k := k) (h := l.s) (x := .da (knD k)) rfl LL.knS (fun P p => e_var rfl p) q1 (by rw [hl]; omega) (a_cons (e_kn (k := k) (h := l.r) (x := .da (knD k)) rfl LL.knS (fun P p => e_var rfl p) q3 (by rw [hl]; omega) (a_nil (ex2 ?_)))))))
    refine s_if (t_and (t_test (e_eqnil (l := l.yes) (fun P p => e_var rfl p) ⟨_, rfl, ?_⟩)))
    have eo : opn k l = (decide (l.yes = []) && (since (at_ k l.s) l.st && bet l.ar (at_ k l.r))) := rfl
    refine ite_dec (fun hy => ?_) fun hy => ?_
    · have hb2 : AT B (tAnd (tTest (tOp rIsNotA (tVar 9) (tC .non))) (tAnd (tTest (tOp rLeA (tVar 9) (tVar 4))) (tOr (tTest (tOp rIsA (tVar 10) (tC .non))) (tTest (tOp rGtA (tVar 10) (tVar 6))))))
          [some (.da (worldD w)), some (.da (knD k)), some (.da (.int i)), some (.da (.int l.s)), some (.da (.int l.st)), some (.da (.int l.r)), some (.da (.int l.ar)), some (.da (.lst (txs l.yes))), some (.da (.lst (txs l.no))), some (.da (optD (at_ k l.s))), some (.da (optD (at_ k l.r)))] o' (fun b o1 => o1 = o' ∧ b = (since (at_ k l.s) l.st && bet l.ar (at_ k l.r))) := by
        refine t_and (t_test (e_op (e_var rfl (e_non ?_))))
        cases q : at_ k l.s with
        | none => exact o_isNotN ⟨_, rfl, ite_ff ⟨rfl, rfl⟩⟩
        | some y =>
          refine o_isNotI ⟨_, rfl, ite_tt (t_and (t_test (e_op (e_var rfl (e_var rfl (o_le ⟨_, rfl, ?_⟩))))))⟩
          refine ite_dec (fun hq => ?_) fun hq => ?_
          · refine t_betG (x := at_ k l.r) (v := l.ar) (fun P p => e_var rfl p) (fun P p => e_var rfl p) ⟨rfl, ?_⟩
            unfold since
            dsimp only
            rw [decide_eq_true hq]
            rfl
          · refine ⟨rfl, ?_⟩
            unfold since
            dsimp only
            rw [decide_eq_false hq]
            rfl
      refine hb2.mono fun b o1 ⟨e, eb⟩ => ?_
      subst e eb
      rw [decide_eq_true hy, Bool.true_and] at eo
      rw [← eo]
      refine ite_b (fun hq => ?_) fun hq => ?_
      · refine s_ret (e_var rfl ?_)
        have : openF w k = some i := by
          unfold openF
          rw [List.findIdx?_eq_some_iff_getElem]
          refine ⟨hi', by rw [← hll]; exact hq, fun m hm => ?_⟩
          rw [hb m _ hm (List.getElem?_eq_getElem (by omega))]
          decide
        rw [this] at h
        exact h
      · exact s_next ⟨rfl, next hq, _, _, _, _, _, _, _, _, _, rfl⟩
    · refine ite_ff (s_next ⟨rfl, next ?_, _, _, _, _, _, _, _, _, _, rfl⟩)
      rw [eo, decide_eq_false hy]
      rfl
  · rintro ρ' o' ⟨rfl, hb, x1, x2, x3, x4, x5, x6, x7, x8, x9, rfl⟩
    refine s_ret (e_non ?_)
    have : openF w k = none := by
      unfold openF
      rw [List.findIdx?_eq_none_iff]
      intro l hll
      obtain ⟨m, hm, e⟩ := List.getElem_of_mem hll
      exact hb m l (by simpa using hm) (by rw [List.getElem?_eq_getElem hm, e])
    rw [this] at h
    exact h
omit T in
theorem ownT_succ {w : Wo} {st : List (Int × Int)} {n : Nat} : ownT w st (n + 1) = w.ls.foldl ownL (ownT w st n) := by
  unfold ownT
  rw [List.range_succ, List.foldl_append]
  rfl
theorem w__law_own_spread (c : c__law_own_spread K ss o Rt Xt) : Wf (r__law_own_spread K W) 8 B ss o Rt := by
  obtain ⟨w, ds, st, rfl, ok, hp, hst, h⟩ := c
  have hlen : ds.length = st.length := Paired.len hp
  have b1 := ok.h1
  have b8 := ok.h8
  unfold Wf r__law_own_spread
  walk_at "st"
  refine s_seq (s_asg (e_lcR1O (a_cons (e_ixc (ds := w.parts) (d := .int w.hc) rfl rfl (a_nil ⟨w.hc, rfl, by omega, by omega, fun i acc o2 => o2 = o ∧ i ≤ w.hc.toNat ∧ acc = List.replicate i D.non, ⟨rfl, Nat.zero_le _, rfl⟩, ?_, ?_, ?_⟩)))))
  · rintro i acc o2 ⟨rfl, hi, rfl⟩
    rw [List.length_replicate]
    omega
  · rintro i acc o2 hi ⟨rfl, _, rfl⟩
    refine gw_name (by simp) (t_yes (ite_tt (e_non ⟨.non, rfl, rfl, by omega, ?_⟩)))
    rw [List.replicate_succ']
  rintro acc o2 ⟨rfl, _, rfl⟩
  have eb : List.replicate w.hc.toNat D.non = knL (blank w) := by unfold knL blank; rw [List.map_replicate]; rfl
  rw [eb]
  refine g_name (s_seq (s_for (e_var rfl ⟨_, rfl, fun i ρ' o' => o' = o2 ++ [.lst ((knL (startsF (blank w) (st.take i))).map Sl.da)] ∧ ∃ u v, ρ' = [some (.da (worldD w)), some (.da (.lst ds)), some (.ow o2.length), u, v, none, none, none], ⟨rfl, _, _, rfl⟩, ?_, ?_⟩)))
  · rintro i d ρ' o' hd ⟨rfl, u, v, rfl⟩
    obtain ⟨q, hq, hpr⟩ := pr_get hp hd
    have hs := hst q (List.mem_of_getElem? hq)
    refine g_pr hpr ?_
    refine g_cons (g_name (g_cons (g_name (g_nil ?_))))
    refine s_upd (k := startsF (blank w) (st.take i)) (h := q.1) (v := q.2) rfl get_new (fun P p => e_var rfl p) (fun P p => e_var rfl p) hs.1 (by rw [len_starts, len_blank]; omega) ⟨?_, _, _, rfl⟩
    rw [set_new, ← startsF_take T hq]
  rintro ρ' o' ⟨rfl, u, v, rfl⟩
  rw [hlen, List.take_length]
  refine s_seq (s_range1 (a_cons (e_ixc (ds := w.parts) (d := .int w.hc) rfl rfl (a_nil ⟨w.hc, rfl, by omega, by omega, fun i ρ' o' => o' = o2 ++ [.lst ((knL (ownT w st i)).map Sl.da)] ∧ ∃ a b c d e, ρ' = [some (.da (worldD w)), some (.da (.lst ds)), some (.ow o2.length), a, b, c, d, e], ⟨rfl, _, _, _, _, _, rfl⟩, ?_, ?_⟩))))
  · rintro t ρ' o' ht ⟨rfl, a, b, c, d, e, rfl⟩
    have hkl : (ownT w st t).length = w.hc.toNat := fold_mem (P := fun (b : Kn) => b.length = w.hc.toNat) _ _ (fun p b _ hb => by rw [len_round, hb]) (by rw [len_starts, len_blank])
    have hsucc := ownT_succ (w := w) (st := st) (n := t)
    generalize ownT w st t = k0 at hkl hsucc
    refine g_name (s_for (e_ixc (ds := w.parts) (d := .lst (w.ls.map LR.d)) rfl rfl ⟨_, rfl, fun i ρ' o' => o' = o2 ++ [.lst ((knL ((w.ls.take i).foldl ownL k0)).map Sl.da)] ∧ ∃ a b c d e, ρ' = [some (.da (worldD w)), some (.da (.lst ds)), some (.ow o2.length), a, b, c, d, e], ⟨rfl, _, _, _, _, _, rfl⟩, ?_, ?_⟩))
    · rintro i d0 ρ' o6 hd0 ⟨rfl, a, b, c, d, e, rfl⟩
      obtain ⟨l, hl, hlm, rfl, _⟩ := map_get hd0
      obtain ⟨q1, q2, q3, q4, q5, q6, q7, q8, q9⟩ := ok.lw l hlm
      have hm : (w.ls.take (i + 1)).foldl ownL k0 = ownL ((w.ls.take i).foldl ownL k0) l := by
        rw [List.take_add_one, hl, List.foldl_append]
        rfl
      have hlk : ((w.ls.take i).foldl ownL k0).length = w.hc.toNat := by
        rw [← hkl]
        exact fold_mem (P := fun (b : Kn) => b.length = k0.length) _ k0 (fun p b _ hb => by rw [len_ownL, hb]) rfl
      generalize (w.ls.take i).foldl ownL k0 = k1 at hlk hm
      refine g_name (s_seq (s_asg (e_kn (k := k1) (h := l.s) (x := .ow o2.length) rfl get_new (fun P p => e_ixcT rfl rfl p) q1 (by rw [hlk]; omega) (g_name ?_))))
      refine s_if (t_and (t_test (e_eqnil (l := l.yes) (fun P p => e_ixcT rfl rfl p) ⟨_, rfl, ?_⟩)))
      refine ite_dec (fun hy => ?_) fun hy => ?_
      · refine t_since (x := at_ k1 l.s) (t := l.st) (fun P p => e_var rfl p) (fun P p => e_ixcT rfl rfl p) ?_
        refine ite_b (fun hs => ?_) fun hs => ?_
        · refine s_upd (k := k1) (h := l.r) (v := l.ar) rfl get_new (fun P p => e_ixcT rfl rfl p) (fun P p => e_ixcT rfl rfl p) q3 (by rw [hlk]; omega) ⟨?_, _, _, _, _, _, rfl⟩
          rw [set_new, hm]
          have : ownL k1 l = updK k1 l.r l.ar := if_pos ⟨hy, hs⟩
          rw [this]
        · refine s_next ⟨?_, _, _, _, _, _, rfl⟩
          have : ownL k1 l = k1 := if_neg (fun z => by rw [hs] at z; exact absurd z.2 (by decide))
          rw [hm, this]
      · refine ite_ff (s_next ⟨?_, _, _, _, _, _, rfl⟩)
        have : ownL k1 l = k1 := if_neg (fun z => hy z.1)
        rw [hm, this]
    · rintro ρ' o6 ⟨rfl, a, b, c, d, e, rfl⟩
      rw [List.length_map, List.take_length, ← hsucc]
      exact ⟨rfl, _, _, _, _, _, rfl⟩
  rintro ρ' o' ⟨rfl, a, b, c, d, e, rfl⟩
  exact s_ret (e_var rfl (h _ _ ⟨_, rfl⟩ (Nat.le_refl _) get_new))
end
end K07
end AB

set_option Elab.async false
set_option linter.all false
set_option maxRecDepth 100000
set_option maxHeartbeats 4000000
set_option autoImplicit false
namespace AB
open PySem L2 PySem.Spec PyProof.Rows He
namespace K07
local macro_rules | `(tactic| walk_at "e") => `(tactic| repeat' (first
  | (with_reducible refine s_seq ?_) | (with_reducible refine s_if ?_) | (with_reducible refine s_drop ?_) | (with_reducible refine s_ret ?_) | (with_reducible refine s_next ?_) | (with_reducible refine s_asg ?_)
  | (with_reducible refine g_name ?_)
  | (with_reducible refine t_test ?_) | (with_reducible refine t_B ?_) | (with_reducible refine t_or ?_) | (with_reducible refine t_and ?_) | (with_reducible refine t_not ?_)
  | ((with_reducible apply e_var); rfl) | (with_reducible refine e_int ?_) | (with_reducible refine e_str ?_) | (with_reducible refine e_bl ?_) | (with_reducible refine e_non ?_)
  | (with_reducible refine e_raw ?_) | (with_reducible refine ite_tt ?_) | (with_reducible refine ite_ff ?_) | (with_reducible refine ite_ntt ?_) | (with_reducible refine ite_nff ?_) | (with_reducible refine n_isiS ?_) | (with_reducible refine n_isiL ?_) | (with_reducible refine n_isiT ?_)
  | ((with_reducible apply e_ixc); (focus rfl); (focus rfl)) | ((with_reducible apply e_ixcT); (focus rfl); (focus rfl))
  | (with_reducible refine e_op ?_) | (with_reducible refine e_un ?_) | (with_reducible refine e_cb ?_) | (with_reducible refine e_callA ?_) | (with_reducible refine e_andV ?_) | (with_reducible refine e_if ?_)
  | (with_reducible refine a_cons ?_) | (with_reducible refine a_nil ?_)
  | (with_reducible refine o_gt ?_) | (with_reducible refine o_lt ?_) | (with_reducible refine o_le ?_) | (with_reducible refine o_ge ?_) | (with_reducible refine o_add ?_) | (with_reducible refine o_sub ?_) | (with_reducible refine o_neg ?_)
  | (with_reducible refine e_tup ?_) | (with_reducible refine e_lst ?_) | (with_reducible refine exd0 ?_) | (with_reducible refine exd1 ?_) | (with_reducible refine exd2 ?_) | (with_reducible refine exd3 ?_) | (with_reducible refine exd4 ?_) | (with_reducible refine exd5 ?_) | (with_reducible refine exd6 ?_)
  | (with_reducible refine o_isNotI ?_) | (with_reducible refine o_isNotN ?_) | (with_reducible refine o_isNotS ?_) | (with_reducible refine o_isI ?_) | (with_reducible refine o_isN ?_) | (with_reducible refine o_isS ?_) | (with_reducible refine o_isT ?_)
  | (with_reducible refine t_yes ?_) | (with_reducible refine gw_name (by decide) ?_)
  | (with_reducible refine s_par ?_) | (with_reducible refine ex2 ?_) | (with_reducible refine o_eqI ?_) | (with_reducible refine o_neI ?_) | (with_reducible refine o_ixL (by assumption) (by assumption) ?_)
  | (with_reducible refine e_sl ?_) | (with_reducible refine l_none ?_) | (with_reducible refine l_some ?_)
  | (with_reducible refine n_list (by assumption) ?_)
  | (with_reducible refine s_par3 ?_) | (with_reducible refine o_isB ?_)
  | (with_reducible refine g_u2 ?_) | (with_reducible refine g_u3 ?_) | (with_reducible refine g_u4 ?_) | (with_reducible refine g_u5 ?_) | (with_reducible refine g_u6 ?_) | (with_reducible refine g_cons ?_) | (with_reducible refine g_nil ?_) | (with_reducible refine gw_u2 ?_) | (with_reducible refine gw_u3 ?_) | (with_reducible refine gw_u4 ?_) | (with_reducible refine gw_u5 ?_) | (with_reducible refine gw_u6 ?_) | (with_reducible refine gw_cons ?_) | (with_reducible refine gw_nil ?_)
  | (with_reducible refine e_chain ?_) | (with_reducible refine e_chain3 ?_) | (with_reducible refine e_orV ?_) | (with_reducible refine e_notV ?_)
  | (with_reducible refine ite_dec (fun h => absurd h (by decide)) (fun _ => ?_)) | (with_reducible refine ite_dec (fun _ => ?_) (fun h => absurd (by decide) h))
  | (with_reducible refine ite_dec (fun _ => ?_) (fun h => absurd (by omega) h)) | (with_reducible refine ite_dec (fun h => absurd h (by omega)) (fun _ => ?_))
  | (with_reducible refine ite_ndec (fun _ => ?_) (fun h => absurd h (by omega))) | (with_reducible refine ite_ndec (fun h => absurd (by omega) h) (fun _ => ?_))
  | (with_reducible refine Exists.intro _ (And.intro rfl ?_))))
local macro_rules | `(tactic| walk_at "st") => `(tactic| simp only [List.map_cons, List.map_nil, List.length_cons, List.length_nil, Nat.reduceAdd, Nat.reduceSub, List.replicate, List.cons_append, List.nil_append])
variable {K : PySem.W.Frag} {B : Base} {W : WX} {ss : List Sl} {o : O} {Rt : Sl → O → Prop} {Xt : Addr → List (Str × D) → O → Prop}
section
variable {mg : Str → Option Value} (T : Tx K mg)
include T
omit T in
theorem row_of {w : Wo} (ok : w.ok) {n : Str} (hn : n ∈ w.ds.map DR.n) : ∃ r, r ∈ w.ds ∧ r.n = n ∧ w.ds[plc w.ds n]? = some r ∧ w.ds.find? (fun r => decide (r.n = n)) = some r := by
  have hl : plc w.ds n < (w.ds.map DR.n).length := List.idxOf_lt_length_of_mem hn
  have hl' : plc w.ds n < w.ds.length := by simpa using hl
  have e : (w.ds.map DR.n)[plc w.ds n] = n := List.getElem_idxOf hl
  rw [List.getElem_map] at e
  have hm : w.ds[plc w.ds n] ∈ w.ds := List.getElem_mem hl'
  refine ⟨w.ds[plc w.ds n], hm, e, List.getElem?_eq_getElem hl', ?_⟩
  cases q : w.ds.find? (fun r => decide (r.n = n)) with
  | none =>
    rw [List.find?_eq_none] at q
    exact absurd (decide_eq_true e) (q _ hm)
  | some r' =>
    have h1 := List.find?_some q
    have h2 := List.mem_of_find?_eq_some q
    have h1 : r'.n = n := of_decide_eq_true h1
    obtain ⟨j, hj, ej⟩ := List.getElem_of_mem h2
    have hp := ok.dn
    have : j = plc w.ds n := by
      have key : ∀ a b, a < b → (ha : a < w.ds.length) → (hb : b < w.ds.length) → w.ds[a].n ≠ w.ds[b].n := fun a b hab ha hb => by
        have := List.pairwise_iff_getElem.mp hp a b (by rw [List.length_map]; exact ha) (by rw [List.length_map]; exact hb) hab
        rw [List.getElem_map, List.getElem_map] at this
        exact this
      rcases Nat.lt_trichotomy j (plc w.ds n) with z | z | z
      · exact absurd (by rw [ej, h1, e]) (key _ _ z hj hl')
      · exact z
      · exact absurd (by rw [ej, h1, e]) (key _ _ z hl' hj)
    subst this
    rw [ej]
omit T in
theorem kBad_none {w : Wo} {k : Kn} (h : ∀ x, x ∈ k → inRg w x) : kBad w k = none := by
  unfold kBad
  have : k.find? (bad1 w) = none := by
    rw [List.find?_eq_none]
    intro x hx
    unfold bad1
    cases x with
    | none => simp
    | some i =>
      have := h _ hx i rfl
      simp
      omega
  rw [this]
  rfl
omit T in
theorem one_ok {w : Wo} (ok : w.ok) {r : DR} (hr : r ∈ w.ds) : StOk w [(r.h, r.m)] := fun p hp => by
  obtain ⟨q1, q2, q3, q4, q5, q6⟩ := ok.dw r hr
  rw [List.mem_singleton.mp hp]
  exact ⟨q2, q3, q4, q5⟩
omit T in
theorem spOn_ok {w : Wo} {st : List (Int × Int)} {R : Kn → Prop} {X : Addr → List (Str × D) → O → Prop} (h : StOk w st) (hl : st.length ≤ 24) (p : R (spreadF w st)) : spOn K w st o R X := by
  unfold spOn
  rw [if_neg (by omega), st_bad_iff h]
  exact p
theorem w_cone_of (hB : B.θ.length = o.length) (c : c_cone_of K ss o Rt Xt) (hX : ∀ ρ o C' fs, Xt C' fs o → AX B W ρ o C' fs) : Wf (r_cone_of K W) 3 B ss o Rt := by
  obtain ⟨w, n, rfl, ok, h1, h2⟩ := c
  unfold Wf r_cone_of
  walk_at "st"
  refine s_seq (s_drop (e_callA (a_cons (e_var rfl (a_cons (e_var rfl (a_nil ⟨w, n, rfl, ok, fun hn => hX _ _ _ _ (h1 hn), fun hn => ?_⟩)))))))
  have h2 := h2 hn
  obtain ⟨r, r1, r2, r3, r4⟩ := row_of ok hn
  have e1 : atI (w.ds.map DR.d) (plc w.ds n : Int) = some (DR.d r) := atI_map (atI_nat r3)
  refine s_seq (s_asg (e_op (e_pm (w := w) rfl (e_var rfl ⟨rfl, a_nil ⟨w, rfl, ?_⟩⟩))))
  refine e_pm (w := w) rfl (e_var rfl ⟨rfl, a_cons (e_var rfl (a_nil ⟨w, n, rfl, ok, fun z => absurd hn z, fun _ => o_ix e1 (g_name ?_)⟩))⟩)
  have ho := one_ok ok r1
  refine s_ret (e_callA (a_cons (e_var rfl (a_cons (e_frz (e_callA (a_cons (e_var rfl (a_cons (e_ixcT rfl rfl (a_cons (e_ixcT rfl rfl (a_nil ⟨w, r.h, r.m, rfl, ok, spOn_ok ho (by simp) fun i o1 f1 hi hk => ?_⟩))))))))))))) 
  refine ⟨i, _, _, rfl, by omega, hk, .lst _, a_nil ⟨w, spreadF w [(r.h, r.m)], rfl, ok, len_spread, ?_⟩⟩
  unfold knOn
  rw [kBad_none (spread_rg ok ho)]
  intro i2 o2 f2 hi2 hk2
  have ec : coneF w n = takersF w (spreadF w [(r.h, r.m)]) := by unfold coneF; rw [r4]
  rw [← ec] at hk2
  have f1' : Fp o (o1.set i .gone) := f1.set hi
  exact h2 i2 o2 (f1'.trans f2) (Nat.le_trans f1'.len hi2) hk2
omit T in
theorem eqv_2 {a b c d : Int} : PyData.eqv (D.py (.tup [.int a, .int b])) (D.py (.tup [.int c, .int d])) = decide (a = c ∧ b = d) := by
  show PyData.eqv (.tuple [.int a, .int b]) (.tuple [.int c, .int d]) = _
  unfold PyData.eqv
  simp only [PyData.eqvAll, eqv_int, Bool.and_true]
  rw [Bool.decide_and]
theorem w_are_together (c : c_are_together K ss o Rt Xt) (hX : ∀ ρ o C' fs, Xt C' fs o → AX B W ρ o C' fs) : Wf (r_are_together K W) 7 B ss o Rt := by
  obtain ⟨w, a, b, rfl, ok, h1, h2⟩ := c
  unfold Wf r_are_together
  walk_at "st"
  refine s_seq (s_asg (e_pm (w := w) rfl (e_var rfl ⟨rfl, a_nil ⟨w, rfl, ok, g_name ?_⟩⟩)))
  have bad : ∀ D0 : AD, ¬(a ∈ w.ds.map DR.n ∧ b ∈ w.ds.map DR.n) → WS B (tRaiseX K "BadNames" ["words"] W (tCons (tLst (tCons (tVar 1) (tCons (tVar 2) tNil))) tNil)) D0 [some (.da (planD K w)), some (.da (.str a)), some (.da (.str b)), some (.da (.lst (txs (w.ds.map DR.n)))), none, none, none] o := fun D0 hb => by
    refine s_raiseX ?_
    walk_at "e"
    exact ⟨[.lst [.str a, .str b]], rfl, rfl, Nat.le_of_ble_eq_true rfl, hX _ _ _ _ (h1 hb)⟩
  refine s_seq (s_if (t_or (t_test (e_op (e_var rfl (e_var rfl (o_notInL rfl (py_txs _) (by simp [D.py, PyData.depth]) ?_)))))))
  rw [any_txs]
  by_cases ha : a ∈ w.ds.map DR.n
  rotate_left
  · rw [df ha]
    exact ⟨_, rfl, ite_tt (ite_tt (bad _ fun z => ha z.1))⟩
  rw [dt ha]
  refine ⟨_, rfl, ite_ff (t_test (e_op (e_var rfl (e_var rfl (o_notInL rfl (py_txs _) (by simp [D.py, PyData.depth]) ?_)))))⟩
  rw [any_txs]
  by_cases hb : b ∈ w.ds.map DR.n
  rotate_left
  · rw [df hb]
    exact ⟨_, rfl, ite_tt (bad _ fun z => hb z.2)⟩
  rw [dt hb]
  refine ⟨_, rfl, ite_ff (s_next ?_)⟩
  obtain ⟨r, r1, r2, r3, r4⟩ := row_of ok ha
  obtain ⟨s, s1, s2, s3, s4⟩ := row_of ok hb
  have e1 : atI (w.ds.map DR.d) (plc w.ds a : Int) = some (DR.d r) := atI_map (atI_nat r3)
  have e2 : atI (w.ds.map DR.d) (plc w.ds b : Int) = some (DR.d s) := atI_map (atI_nat s3)
  refine s_seq (s_asg (e_pm (w := w) rfl (e_var rfl ⟨rfl, a_nil ⟨w, rfl, g_name ?_⟩⟩)))
  refine s_seq (s_par (a_cons (e_op (e_var rfl (e_pm (w := w) rfl (e_var rfl ⟨rfl, a_cons (e_var rfl (a_nil ⟨w, a, rfl, ok, fun z => absurd ha z, fun _ => o_ix e1 ?_⟩))⟩))))))
  refine a_cons (e_op (e_var rfl (e_pm (w := w) rfl (e_var rfl ⟨rfl, a_cons (e_var rfl (a_nil ⟨w, b, rfl, ok, fun z => absurd hb z, fun _ => o_ix e2 (a_nil (ex2 ?_))⟩))⟩))))
  refine s_ret (e_op (e_tup (a_cons (e_ixcT rfl rfl (a_cons (e_ixcT rfl rfl (a_nil (exd2 ?_))))))))
  refine e_tup (a_cons (e_ixcT rfl rfl (a_cons (e_ixcT rfl rfl (a_nil (exd2 ?_))))))
  refine o_eq rfl rfl (by simp [D.py, D.pyL, PyData.depth, PyData.depthAll]) ?_
  rw [eqv_2]
  have := h2 ha hb
  unfold toget at this
  rw [r4, s4] at this
  exact this
/-! ### the law's lists -/
def items (w : Wo) : List (Option Int) := none :: (List.range (w.last + 1).toNat).map fun (i : Nat) => some (i : Int)
def evl (w : Wo) : Nat → List Kn
  | 0 => [[]]
  | n + 1 => (evl w n).flatMap fun k => (items w).map fun x => k ++ [x]
omit T in
theorem items_len {w : Wo} (h : 0 ≤ w.last) : (items w).length = (w.last + 2).toNat := by
  unfold items
  rw [List.length_cons, List.length_map, List.length_range]
  omega
omit T in
theorem items_mem {w : Wo} {x : Option Int} : x ∈ items w ↔ inRg w x := by
  unfold items inRg
  rw [List.mem_cons, List.mem_map]
  constructor
  · rintro (rfl | ⟨i, hi, rfl⟩) y e
    · cases e
    · rw [List.mem_range] at hi
      cases e
      omega
  · intro h
    cases x with
    | none => exact .inl rfl
    | some y =>
      have := h y rfl
      exact .inr ⟨y.toNat, List.mem_range.mpr (by omega), by congr 1; omega⟩
omit T in
theorem evl_mem {w : Wo} : ∀ {n : Nat} {k : Kn}, k ∈ evl w n ↔ k.length = n ∧ ∀ x, x ∈ k → inRg w x
  | 0, k => by
    unfold evl
    rw [List.mem_singleton]
    constructor
    · rintro rfl
      exact ⟨rfl, fun x hx => by cases hx⟩
    · rintro ⟨h, _⟩
      exact List.eq_nil_of_length_eq_zero h
  | n + 1, k => by
    unfold evl
    rw [List.mem_flatMap]
    constructor
    · rintro ⟨a, ha, hk⟩
      obtain ⟨x, hx, rfl⟩ := List.mem_map.mp hk
      obtain ⟨h1, h2⟩ := evl_mem.mp ha
      refine ⟨by rw [List.length_append, h1]; rfl, fun y hy => ?_⟩
      rcases List.mem_append.mp hy with q | q
      · exact h2 y q
      · rw [List.mem_singleton.mp q]
        exact items_mem.mp hx
    · rintro ⟨h1, h2⟩
      have hne : k ≠ [] := fun z => by rw [z] at h1; cases h1
      refine ⟨k.dropLast, evl_mem.mpr ⟨by rw [List.length_dropLast, h1]; rfl, fun x hx => h2 x ((List.dropLast_sublist k).subset hx)⟩, ?_⟩
      exact List.mem_map.mpr ⟨k.getLast hne, items_mem.mpr (h2 _ (List.getLast_mem hne)), List.dropLast_concat_getLast hne⟩
omit T in
theorem flat_len {α β : Type} {f : α → List β} {m : Nat} (h : ∀ a, (f a).length = m) : ∀ l : List α, (l.flatMap f).length = l.length * m
  | [] => by simp
  | a :: r => by
    rw [List.flatMap_cons, List.length_append, h, flat_len h r, List.length_cons, Nat.succ_mul]
    omega
omit T in
theorem evl_len {w : Wo} (sm : Small w) : ∀ n, n ≤ 3 → (evl w n).length ≤ 6 ^ n
  | 0, _ => by unfold evl; simp
  | n + 1, h => by
    have t0 := sm.ok.t0
    have t4 := sm.t4
    have ih := evl_len sm n (by omega)
    have hi := items_len t0
    unfold evl
    rw [flat_len (m := (items w).length) (fun a => by rw [List.length_map]), hi, Nat.pow_succ]
    exact Nat.mul_le_mul ih (by omega)
omit T in
theorem evl_few {w : Wo} (sm : Small w) {n : Nat} (h : n ≤ 3) : (evl w n).length ≤ 216 :=
  Nat.le_trans (evl_len sm n h) (Nat.pow_le_pow_right (by decide) h)
theorem w__law_every_list (c : c__law_every_list K ss o Rt Xt) : Wf (r__law_every_list K W) 6 B ss o Rt := by
  obtain ⟨w, rfl, sm, h⟩ := c
  have ok := sm.ok
  have b1 := ok.h1
  have b3 := sm.h3
  have t0 := ok.t0
  have t4 := sm.t4
  have il := items_len t0
  unfold Wf r__law_every_list
  walk_at "st"
  refine s_seq (s_asg (e_lst (a_cons (e_lst (a_nil (exd0 ?_))))))
  refine a_nil (exd1 (g_name ?_))
  refine s_seq (s_range1 (a_cons (e_ixc (ds := w.parts) (d := .int w.hc) rfl rfl (a_nil ⟨w.hc, rfl, by omega, by omega, fun i ρ' o' => Fp o o' ∧ ∃ a b c d, ρ' = [some (.da (worldD w)), some (.da (.lst ((evl w i).map knD))), a, b, c, d], ⟨Fp.refl o, _, _, _, _, rfl⟩, ?_, ?_⟩))))
  · rintro n ρ' o' hn ⟨f1, a, b, c, d, rfl⟩
    have hn3 : n ≤ 3 := by omega
    have hfew := evl_few sm hn3
    refine g_name (s_seq (s_asg (e_lst (a_nil (exd0 (g_name ?_))))))
    refine s_seq (s_for (e_var rfl ⟨_, rfl, fun i ρ' o' => Fp o o' ∧ ∃ a d, ρ' = [some (.da (worldD w)), some (.da (.lst ((evl w n).map knD))), some (.da (.int n)), some (.da (.lst ((((evl w n).take i).flatMap fun k => (items w).map fun x => k ++ [x]).map knD))), a, d], ⟨f1, _, _, rfl⟩, ?_, ?_⟩))
    · rintro i d0 ρ' o2 hd ⟨f2, a, d, rfl⟩
      obtain ⟨k, hk, hkm, rfl, hi⟩ := map_get hd
      obtain ⟨hkl, _⟩ := evl_mem.mp hkm
      refine g_name (s_asg (e_op (e_var rfl ?_)))
      refine lc_mapO optD (fun x => knD (k ++ [x])) (items w) (by omega) (e_op (e_lst (a_cons (e_non (a_nil (exd1 ?_))))))
      refine e_lstRg (e_op (e_ixc (ds := w.parts) (d := .int w.last) rfl rfl (e_int (o_add ⟨w.last + 1, rfl, by omega, by omega, ?_⟩))))
      refine o_addL (ds := [D.non]) (es := rgD (w.last + 1)) rfl get_new (sizeBig (by unfold rgD; simp; omega)) ⟨?_, fun x hx => gw_name (by simp) ⟨rfl, e_op (e_var rfl (e_lst (a_cons (e_var rfl (a_nil (exd1 ?_))))))⟩, ?_⟩
      · unfold items rgD
        simp [Function.comp_def, optD]
      · refine o_addL (ds := knL k) (es := [optD x]) rfl rfl (sizeBig (by unfold knL; simp; omega)) ⟨rfl, ?_⟩
        unfold knD knL
        rw [List.map_append]
        rfl
      · have hl1 : (((evl w n).take i).flatMap fun k => (items w).map fun x => k ++ [x]).length ≤ 216 * 6 := by
          rw [flat_len (m := (items w).length) (fun a => by rw [List.length_map]), List.length_take]
          exact Nat.mul_le_mul (by omega) (by omega)
        refine o_addL (ds := (((evl w n).take i).flatMap fun k => (items w).map fun x => k ++ [x]).map knD) (es := (items w).map fun x => knD (k ++ [x])) rfl rfl (sizeBig (by rw [List.length_map, List.length_map]; omega)) (g_name ?_)
        have e : (((evl w n).take (i + 1)).flatMap fun k => (items w).map fun x => k ++ [x]).map knD = (((evl w n).take i).flatMap fun k => (items w).map fun x => k ++ [x]).map knD ++ (items w).map fun x => knD (k ++ [x]) := by
          rw [List.take_add_one, hk, List.flatMap_append, List.map_append]
          simp [Function.comp_def]
        rw [← e]
        exact ⟨f2.trans ⟨_, rfl⟩, _, _, rfl⟩
    · rintro ρ' o2 ⟨f2, a, d, rfl⟩
      rw [List.length_map, List.take_length]
      exact s_asg (e_var rfl (g_name ⟨f2, _, _, _, _, rfl⟩))
  rintro ρ' o' ⟨f1, a, b, c, d, rfl⟩
  refine s_ret (e_var rfl (h (evl w w.hc.toNat) o' ⟨fun k hk => (evl_mem.mp hk).1, fun k hk => (evl_mem.mp hk).2, fun k h1 h2 => evl_mem.mpr ⟨h1, h2⟩, ?_⟩ f1))
  have := evl_few sm (n := w.hc.toNat) (by omega)
  omega
end
end K07
end AB

set_option Elab.async false
set_option linter.all false
set_option maxRecDepth 100000
set_option maxHeartbeats 4000000
set_option autoImplicit false
namespace AB
open PySem L2 PySem.Spec PyProof.Rows He
namespace K07
local macro_rules | `(tactic| walk_at "e") => `(tactic| repeat' (first
  | (with_reducible refine s_seq ?_) | (with_reducible refine s_if ?_) | (with_reducible refine s_drop ?_) | (with_reducible refine s_ret ?_) | (with_reducible refine s_next ?_) | (with_reducible refine s_asg ?_)
  | (with_reducible refine g_name ?_)
  | (with_reducible refine t_test ?_) | (with_reducible refine t_B ?_) | (with_reducible refine t_or ?_) | (with_reducible refine t_and ?_) | (with_reducible refine t_not ?_)
  | ((with_reducible apply e_var); rfl) | (with_reducible refine e_int ?_) | (with_reducible refine e_str ?_) | (with_reducible refine e_bl ?_) | (with_reducible refine e_non ?_)
  | (with_reducible refine e_raw ?_) | (with_reducible refine ite_tt ?_) | (with_reducible refine ite_ff ?_) | (with_reducible refine ite_ntt ?_) | (with_reducible refine ite_nff ?_) | (with_reducible refine n_isiS ?_) | (with_reducible refine n_isiL ?_) | (with_reducible refine n_isiT ?_)
  | ((with_reducible apply e_ixc); (focus rfl); (focus rfl)) | ((with_reducible apply e_ixcT); (focus rfl); (focus rfl))
  | (with_reducible refine e_op ?_) | (with_reducible refine e_un ?_) | (with_reducible refine e_cb ?_) | (with_reducible refine e_callA ?_) | (with_reducible refine e_andV ?_) | (with_reducible refine e_if ?_)
  | (with_reducible refine a_cons ?_) | (with_reducible refine a_nil ?_)
  | (with_reducible refine o_gt ?_) | (with_reducible refine o_lt ?_) | (with_reducible refine o_le ?_) | (with_reducible refine o_ge ?_) | (with_reducible refine o_add ?_) | (with_reducible refine o_sub ?_) | (with_reducible refine o_neg ?_)
  | (with_reducible refine e_tup ?_) | (with_reducible refine e_lst ?_) | (with_reducible refine exd0 ?_) | (with_reducible refine exd1 ?_) | (with_reducible refine exd2 ?_) | (with_reducible refine exd3 ?_) | (with_reducible refine exd4 ?_) | (with_reducible refine exd5 ?_) | (with_reducible refine exd6 ?_)
  | (with_reducible refine o_isNotI ?_) | (with_reducible refine o_isNotN ?_) | (with_reducible refine o_isNotS ?_) | (with_reducible refine o_isI ?_) | (with_reducible refine o_isN ?_) | (with_reducible refine o_isS ?_) | (with_reducible refine o_isT ?_)
  | (with_reducible refine t_yes ?_) | (with_reducible refine gw_name (by decide) ?_)
  | (with_reducible refine s_par ?_) | (with_reducible refine ex2 ?_) | (with_reducible refine o_eqI ?_) | (with_reducible refine o_neI ?_) | (with_reducible refine o_ixL (by assumption) (by assumption) ?_)
  | (with_reducible refine e_sl ?_) | (with_reducible refine l_none ?_) | (with_reducible refine l_some ?_)
  | (with_reducible refine n_list (by assumption) ?_)
  | (with_reducible refine s_par3 ?_) | (with_reducible refine o_isB ?_)
  | (with_reducible refine g_u2 ?_) | (with_reducible refine g_u3 ?_) | (with_reducible refine g_u4 ?_) | (with_reducible refine g_u5 ?_) | (with_reducible refine g_u6 ?_) | (with_reducible refine g_cons ?_) | (with_reducible refine g_nil ?_) | (with_reducible refine gw_u2 ?_) | (with_reducible refine gw_u3 ?_) | (with_reducible refine gw_u4 ?_) | (with_reducible refine gw_u5 ?_) | (with_reducible refine gw_u6 ?_) | (with_reducible refine gw_cons ?_) | (with_reducible refine gw_nil ?_)
  | (with_reducible refine e_chain ?_) | (with_reducible refine e_chain3 ?_) | (with_reducible refine e_orV ?_) | (with_reducible refine e_notV ?_)
  | (with_reducible refine ite_dec (fun h => absurd h (by decide)) (fun _ => ?_)) | (with_reducible refine ite_dec (fun _ => ?_) (fun h => absurd (by decide) h))
  | (with_reducible refine ite_dec (fun _ => ?_) (fun h => absurd (by omega) h)) | (with_reducible refine ite_dec (fun h => absurd h (by omega)) (fun _ => ?_))
  | (with_reducible refine ite_ndec (fun _ => ?_) (fun h => absurd h (by omega))) | (with_reducible refine ite_ndec (fun h => absurd (by omega) h) (fun _ => ?_))
  | (with_reducible refine Exists.intro _ (And.intro rfl ?_))))
local macro_rules | `(tactic| walk_at "st") => `(tactic| simp only [List.map_cons, List.map_nil, List.length_cons, List.length_nil, Nat.reduceAdd, Nat.reduceSub, List.replicate, List.cons_append, List.nil_append])
variable {K : PySem.W.Frag} {B : Base} {W : WX} {ss : List Sl} {o : O} {Rt : Sl → O → Prop} {Xt : Addr → List (Str × D) → O → Prop}
section
variable {mg : Str → Option Value} (T : Tx K mg)
include T
/-! ### the greatest of the closed lists -/
def mx (a b : Option Int) : Option Int := match a with
  | none => none
  | some x => match b with
    | none => none
    | some y => if x < y then some y else some x
omit T in
theorem mx_l (a b : Option Int) : Le a (mx a b) := by
  cases a with
  | none => trivial
  | some x =>
    cases b with
    | none => trivial
    | some y =>
      unfold mx
      dsimp only
      split
      · exact ⟨x, rfl, by omega⟩
      · exact Le.refl _
omit T in
theorem mx_r (a b : Option Int) : Le b (mx a b) := by
  cases a with
  | none => trivial
  | some x =>
    cases b with
    | none => trivial
    | some y =>
      unfold mx
      dsimp only
      split
      · exact Le.refl _
      · exact ⟨y, rfl, by omega⟩
omit T in
theorem mx_or (a b : Option Int) : mx a b = a ∨ mx a b = b := by
  cases a with
  | none => exact .inl rfl
  | some x =>
    cases b with
    | none => exact .inr rfl
    | some y =>
      unfold mx
      dsimp only
      split
      · exact .inr rfl
      · exact .inl rfl
def holdB (k : Kn) (st : List (Int × Int)) : Bool := st.all fun p => !bet p.2 (at_ k p.1)
omit T in
theorem holdB_iff {k : Kn} {st : List (Int × Int)} : holdB k st = true ↔ Hold k st := by
  unfold holdB
  rw [List.all_eq_true]
  constructor
  · intro h p hp
    exact not_bet.mp (by simpa using h p hp)
  · intro h p hp
    rw [not_bet.mpr (h p hp)]
    rfl
/-- F after the first i places were compared with k -/
def mxT (F k : Kn) (i : Nat) : Kn := (List.range F.length).map fun j => if j < i then mx (g F j) (g k j) else g F j
omit T in
theorem mxT_len {F k : Kn} {i : Nat} : (mxT F k i).length = F.length := by unfold mxT; rw [List.length_map, List.length_range]
omit T in
theorem mxT_g {F k : Kn} {i j : Nat} (h : j < F.length) : g (mxT F k i) j = if j < i then mx (g F j) (g k j) else g F j := by
  unfold mxT g
  rw [List.getElem?_map, List.getElem?_range h]
  rfl
omit T in
theorem mxT_0 {F k : Kn} : mxT F k 0 = F := kn_ext mxT_len fun i hi => by
  rw [mxT_len] at hi
  rw [mxT_g hi, if_neg (Nat.not_lt_zero _)]
omit T in
theorem mxT_set {F k : Kn} {i : Nat} (h : i < F.length) : mxT F k (i + 1) = (mxT F k i).set i (mx (g F i) (g k i)) := kn_ext (by rw [List.length_set, mxT_len, mxT_len]) fun j hj => by
  rw [mxT_len] at hj
  rw [g_set, mxT_g hj, mxT_g hj, mxT_len]
  by_cases e : j = i
  · subst e
    rw [if_pos (show j < j + 1 by omega), if_pos (show j = j ∧ j < F.length from ⟨rfl, hj⟩)]
  · rw [if_neg (show ¬(j = i ∧ i < F.length) from fun z => e z.1)]
    by_cases q : j < i
    · rw [if_pos (show j < i + 1 by omega), if_pos q]
    · rw [if_neg (show ¬ j < i + 1 by omega), if_neg q]
omit T in
theorem kn_atN {k : Kn} {i : Nat} (h : i < k.length) : atI ((knL k).map Sl.da) (i : Int) = some (.da (optD (g k i))) := by
  refine atI_of (j := i) ?_ ?_
  · unfold ixN
    rw [if_pos (by omega), if_pos (by rw [List.length_map, knL, List.length_map]; omega)]
    rfl
  · unfold g knL
    rw [List.getElem?_map, List.getElem?_map, List.getElem?_eq_getElem h]
    rfl
omit T in
theorem kn_setO {k : Kn} {i : Nat} {x : Option Int} : ((knL k).map Sl.da).set i (.da (optD x)) = (knL (k.set i x)).map Sl.da := by
  unfold knL
  rw [List.map_set, List.map_set]
theorem w__law_least_closed (c : c__law_least_closed K ss o Rt Xt) : Wf (r__law_least_closed K W) 9 B ss o Rt := by
  obtain ⟨w, cl, ds, st, S, rfl, ok, hp, hst, tp, h⟩ := c
  have hlen : ds.length = st.length := Paired.len hp
  have b1 := ok.h1
  have b8 := ok.h8
  have lS := tp.len S tp.mem
  unfold Wf r__law_least_closed
  walk_at "st"
  refine s_seq (s_asg (e_lcR1O (a_cons (e_ixc (ds := w.parts) (d := .int w.hc) rfl rfl (a_nil ⟨w.hc, rfl, by omega, by omega, fun i acc o2 => o2 = o ∧ i ≤ w.hc.toNat ∧ acc = List.replicate i (D.int 0), ⟨rfl, Nat.zero_le _, rfl⟩, ?_, ?_, ?_⟩)))))
  · rintro i acc o2 ⟨rfl, hi, rfl⟩
    rw [List.length_replicate]
    omega
  · rintro i acc o2 hi ⟨rfl, _, rfl⟩
    refine gw_name (by simp) (t_yes (ite_tt (e_int ⟨.int 0, rfl, rfl, by omega, ?_⟩)))
    rw [List.replicate_succ']
  rintro acc o2 ⟨rfl, _, rfl⟩
  have eb : List.replicate w.hc.toNat (D.int 0) = knL (List.replicate w.hc.toNat (some 0)) := by unfold knL; rw [List.map_replicate]; rfl
  rw [eb]
  have g0 : ∀ i, i < w.hc.toNat → g (List.replicate w.hc.toNat (some 0)) i = some 0 := fun i hi => by
    unfold g
    rw [List.getElem?_replicate, if_pos hi]
    rfl
  refine g_name (s_seq (s_for (e_var rfl ⟨_, rfl, fun i ρ' o' => ∃ (F : Kn) (a b c d e : Option Sl), F.length = w.hc.toNat ∧ (∀ j, j < w.hc.toNat → Le (g F j) (g S j)) ∧ (S ∈ cl.take i → ∀ j, j < w.hc.toNat → Le (g S j) (g F j)) ∧ o' = o2 ++ [.lst ((knL F).map Sl.da)] ∧ ρ' = [some (.da (worldD w)), some (.da (.lst (cl.map knD))), some (.da (.lst ds)), some (.ow o2.length), a, b, c, d, e],
    ⟨List.replicate w.hc.toNat (some 0), _, _, _, _, _, List.length_replicate, fun j hj => ?_, (fun z => by rw [List.take_zero] at z; cases z), rfl, rfl⟩, ?_, ?_⟩)))
  · rw [g0 j hj]
    cases e : g S j with
    | none => trivial
    | some y =>
      have hm : some y ∈ S := by
        unfold g at e
        cases q : S[j]? with
        | none => rw [q] at e; cases e
        | some z =>
          rw [q] at e
          have : z = some y := e
          rw [← this]
          exact List.mem_of_getElem? q
      exact ⟨0, rfl, tp.pos S tp.mem y hm⟩
  · rintro i d0 ρ' o' hd0 ⟨F, a, b, c, d, e, lF, f1, f2, rfl, rfl⟩
    obtain ⟨k, hk, hkm, rfl, hi⟩ := map_get hd0
    have lk := tp.len k hkm
    refine g_name (s_seq (s_asg (e_bl (g_name ?_))))
    refine s_seq (s_for (e_var rfl ⟨_, rfl, fun i ρ' o' => o' = o2 ++ [.lst ((knL F).map Sl.da)] ∧ ∃ u v, ρ' = [some (.da (worldD w)), some (.da (.lst (cl.map knD))), some (.da (.lst ds)), some (.ow o2.length), some (.da (knD k)), some (.da (.bl (holdB k (st.take i)))), u, v, e], ⟨rfl, _, _, rfl⟩, ?_, ?_⟩))
    · rintro n d1 ρ' o' hd1 ⟨rfl, u, v, rfl⟩
      obtain ⟨q, hq, hpr⟩ := pr_get hp hd1
      have hs := hst q (List.mem_of_getElem? hq)
      have hh : holdB k (st.take (n + 1)) = (holdB k (st.take n) && !bet q.2 (at_ k q.1)) := by
        unfold holdB
        rw [List.take_add_one, hq, List.all_append]
        simp
      refine g_pr hpr (g_cons (g_name (g_cons (g_name (g_nil ?_)))))
      refine s_if (t_betG (x := at_ k q.1) (v := q.2) (fun P p => e_kn (k := k) (h := q.1) (x := .da (knD k)) rfl LL.knS (fun P p => e_var rfl p) hs.1 (by rw [lk]; omega) p) (fun P p => e_var rfl p) ?_)
      refine ite_b (fun hb => ?_) fun hb => ?_
      · refine s_asg (e_bl (g_name ⟨rfl, some (.da (.int q.1)), some (.da (.int q.2)), ?_⟩))
        rw [hh, hb, Bool.not_true, Bool.and_false]
        rfl
      · refine s_next ⟨rfl, some (.da (.int q.1)), some (.da (.int q.2)), ?_⟩
        rw [hh, hb, Bool.not_false, Bool.and_true]
        rfl
    rintro ρ' o' ⟨rfl, u, v, rfl⟩
    rw [hlen, List.take_length]
    refine s_if (t_B (e_var rfl ⟨_, rfl, ?_⟩))
    have stay : ∀ (hno : S ∈ cl.take (i + 1) → S ∈ cl.take i), (S ∈ cl.take (i + 1) → ∀ j, j < w.hc.toNat → Le (g S j) (g F j)) := fun hno z => f2 (hno z)
    refine ite_b (fun hb => ?_) fun hb => ?_
    · have hK := holdB_iff.mp hb
      have top := tp.top k hkm hK
      refine s_range1 (a_cons (e_ixc (ds := w.parts) (d := .int w.hc) rfl rfl (a_nil ⟨w.hc, rfl, by omega, by omega, fun n ρ' o' => o' = o2 ++ [.lst ((knL (mxT F k n)).map Sl.da)] ∧ ∃ x, ρ' = [some (.da (worldD w)), some (.da (.lst (cl.map knD))), some (.da (.lst ds)), some (.ow o2.length), some (.da (knD k)), some (.da (.bl (holdB k st))), u, v, x], ⟨by rw [mxT_0], _, rfl⟩, ?_, ?_⟩)))
      · rintro n ρ' o' hn ⟨rfl, x, rfl⟩
        have hnF : n < F.length := by omega
        have hms := mxT_set (k := k) hnF
        have gn : g (mxT F k n) n = g F n := by rw [mxT_g hnF, if_neg (Nat.lt_irrefl _)]
        have lm : n < (mxT F k n).length := by rw [mxT_len]; exact hnF
        have r1 : ∀ P : Sl → O → Prop, P (.da (optD (g F n))) (o2 ++ [.lst ((knL (mxT F k n)).map Sl.da)]) → AE B (tOp (rIxA K) (tVar 3) (tVar 8)) [some (.da (worldD w)), some (.da (.lst (cl.map knD))), some (.da (.lst ds)), some (.ow o2.length), some (.da (knD k)), some (.da (.bl (holdB k st))), u, v, some (.da (.int n))] (o2 ++ [.lst ((knL (mxT F k n)).map Sl.da)]) P := fun P p => e_op (e_var rfl (e_var rfl (o_ixL get_new (kn_atN lm) (by rw [gn]; exact p))))
        have r2 : ∀ P : Sl → O → Prop, P (.da (optD (g k n))) (o2 ++ [.lst ((knL (mxT F k n)).map Sl.da)]) → AE B (tOp (rIxA K) (tVar 4) (tVar 8)) [some (.da (worldD w)), some (.da (.lst (cl.map knD))), some (.da (.lst ds)), some (.ow o2.length), some (.da (knD k)), some (.da (.bl (holdB k st))), u, v, some (.da (.int n))] (o2 ++ [.lst ((knL (mxT F k n)).map Sl.da)]) P := fun P p => e_op (e_var rfl (e_var rfl (o_ixL (x := .da (knD k)) LL.knS (kn_atN (by omega)) p)))
        have same : mx (g F n) (g k n) = g F n → mxT F k (n + 1) = mxT F k n := fun e => by
          rw [hms, e, ← gn]
          exact kn_ext (by rw [List.length_set]) fun j hj => by
            rw [g_set]
            split
            · rename_i z; rw [z.1]
            · rfl
        refine g_name (s_if (t_and (t_test (e_op (r1 _ (e_non ?_))))))
        cases eF : g F n with
        | none =>
          refine o_isNotN ⟨_, rfl, ite_ff (s_next ⟨?_, _, rfl⟩)⟩
          rw [same (by rw [eF]; rfl)]
        | some x =>
          refine o_isNotI ⟨_, rfl, ite_tt ?_⟩
          rw [eF] at r1
          refine t_or (t_test (e_op (r2 _ (e_non ?_))))
          have put : mx (some x) (g k n) = g k n → WS B (tAsg (tOp (rIxA K) (tVar 4) (tVar 8)) (gSub (tVar 3) (tVar 8) rSetL)) { nx := fun ρ' o' => o' = o2 ++ [.lst ((knL (mxT F k (n + 1))).map Sl.da)] ∧ ∃ x, ρ' = [some (.da (worldD w)), some (.da (.lst (cl.map knD))), some (.da (.lst ds)), some (.ow o2.length), some (.da (knD k)), some (.da (.bl (holdB k st))), u, v, x], rt := Rt }
              [some (.da (worldD w)), some (.da (.lst (cl.map knD))), some (.da (.lst ds)), some (.ow o2.length), some (.da (knD k)), some (.da (.bl (holdB k st))), u, v, some (.da (.int n))] (o2 ++ [.lst ((knL (mxT F k n)).map Sl.da)]) := fun e => by
            refine s_asg (r2 _ (AB.g_set (e_var rfl (e_var rfl ⟨o2.length, _, n, n, rfl, rfl, get_new, ?_, ?_, _, rfl⟩))))
            · unfold ixN
              rw [if_pos (by omega), if_pos (by rw [List.length_map, knL, List.length_map, mxT_len]; omega)]
              rfl
            · rw [set_new, kn_setO, hms, eF, e]
          cases eK : g k n with
          | none =>
            refine o_isN ⟨_, rfl, ite_tt (ite_tt ?_)⟩
            exact (put (by rw [eK]; rfl)).mono (fun _ _ q => q) (fun _ _ q => q) (fun _ _ q => False.elim q) (fun _ _ q => False.elim q)
          | some y =>
            rw [eK] at r2
            refine o_isI ⟨_, rfl, ite_ff (t_test (e_op (r2 _ (r1 _ (o_gt ⟨_, rfl, ?_⟩)))))⟩
            refine ite_dec (fun hq => ?_) fun hq => ?_
            · exact (put (by rw [eK]; unfold mx; dsimp only; rw [if_pos hq])).mono (fun _ _ q => q) (fun _ _ q => q) (fun _ _ q => False.elim q) (fun _ _ q => False.elim q)
            · refine s_next ⟨?_, _, rfl⟩
              rw [same (by rw [eF, eK]; unfold mx; dsimp only; rw [if_neg hq])]
      · rintro ρ' o' ⟨rfl, x, rfl⟩
        have gm : ∀ j, j < w.hc.toNat → g (mxT F k w.hc.toNat) j = mx (g F j) (g k j) := fun j hj => by rw [mxT_g (by omega), if_pos hj]
        refine ⟨mxT F k w.hc.toNat, _, _, _, _, _, by rw [mxT_len, lF], fun j hj => ?_, fun z j hj => ?_, rfl, rfl⟩
        · rw [gm j hj]
          rcases mx_or (g F j) (g k j) with q | q
          · rw [q]; exact f1 j hj
          · rw [q]; exact top j hj
        · rw [gm j hj]
          rw [List.take_add_one, hk] at z
          rcases List.mem_append.mp z with q | q
          · exact (f2 q j hj).trans (mx_l _ _)
          · have : S = k := by simpa using q
            rw [this]
            exact mx_r _ _
    · refine s_next ⟨F, _, _, _, _, _, lF, f1, fun z => ?_, rfl, rfl⟩
      rw [List.take_add_one, hk] at z
      rcases List.mem_append.mp z with q | q
      · exact f2 q
      · have e : S = k := by simpa using q
        subst e
        rw [holdB_iff.mpr tp.hold] at hb
        cases hb
  rintro ρ' o' ⟨F, a, b, c, d, e, lF, f1, f2, rfl, rfl⟩
  rw [List.length_map, List.take_length] at f2
  have eF : F = S := kn_ext (by rw [lF, lS]) fun j hj => Le.anti (f1 j (by omega)) (f2 tp.mem j (by omega))
  subst eF
  exact s_ret (e_var rfl (h _ _ ⟨_, rfl⟩ (Nat.le_refl _) get_new))
/-! ### what is told -/
theorem w__law_spread_told (hB : B.θ.length = o.length) (c : c__law_spread_told K ss o Rt Xt) : Wf (r__law_spread_told K W) 4 B ss o Rt := by
  obtain ⟨w, ds, st, rfl, ok, hp, hl, h⟩ := c
  unfold Wf r__law_spread_told
  walk_at "st"
  walk_at "e"
  refine s_try (tb := fun W => tAsg (tCallS (SpC (c_spread_of K)) (WE W) (tCons (tVar 0) (tCons (tVar 1) tNil))) (gName 2)) (fun _ _ _ _ => False) (fun _ _ _ _ z => z.elim) fun B' W' hX => ?_
  walk_at "e"
  refine ⟨w, ds, st, rfl, ok, hp, hl, ?_⟩
  unfold spOn
  unfold spTold at h
  by_cases h24 : 24 < st.length
  · rw [if_pos h24] at h ⊢
    have h := h o (Fp.refl _)
    refine hX _ _ _ _ ⟨true, T.m_TooMany_TooMany, fun _ x dd => ?_, fun z => by cases z⟩
    walk_at "e"
    refine e_xf ?_
    walk_at "e"
    refine ⟨_, .str "starts", rfl, lk1, ?_⟩
    walk_at "e"
    dsimp only [offA]
    walk_at "e"
    exact h
  rw [if_neg h24] at h ⊢
  cases e : stBad w st with
  | some m =>
    rw [e] at h
    have h := h o (Fp.refl _)
    refine hX _ _ _ _ ⟨false, T.m_BadMoment_TooMany, (fun z => by cases z), fun _ => ⟨true, T.m_BadMoment_BadMoment, fun _ x dd => ?_, fun z => by cases z⟩⟩
    walk_at "e"
    refine e_xf ?_
    walk_at "e"
    refine ⟨_, .int m, rfl, lk1, ?_⟩
    walk_at "e"
    dsimp only [offA]
    walk_at "e"
    exact h
  | none =>
    rw [e] at h
    intro i o' f hi hk
    refine g_name ?_
    refine s_frz 2 (j := i) rfl (by omega) hk (.lst _) ?_
    refine s_ret (e_tup (a_cons (e_str (a_cons (e_var rfl (a_nil (exd2 ?_)))))))
    exact h _ (f.set hi)
theorem w__law_reach_told (hB : B.θ.length = o.length) (c : c__law_reach_told K ss o Rt Xt) : Wf (r__law_reach_told K W) 5 B ss o Rt := by
  obtain ⟨w, a, b, rfl, ok, h⟩ := c
  unfold Wf r__law_reach_told
  walk_at "st"
  walk_at "e"
  refine s_try (tb := fun W => tAsg (tCallS (SpC (c_reach_of K)) (WE W) (tCons (tVar 0) (tCons (tVar 1) (tCons (tVar 2) tNil)))) (gName 3)) (fun _ _ _ _ => False) (fun _ _ _ _ z => z.elim) fun B' W' hX => ?_
  walk_at "e"
  refine ⟨w, a, b, rfl, ok, ?_⟩
  unfold spOn
  unfold spTold at h
  rw [if_neg (by simp)] at h ⊢
  cases e : stBad w [(a, b)] with
  | some m =>
    rw [e] at h
    have h := h o (Fp.refl _)
    refine hX _ _ _ _ ⟨true, T.m_BadMoment_BadMoment, fun _ x dd => ?_, fun z => by cases z⟩
    walk_at "e"
    refine e_xf ?_
    walk_at "e"
    refine ⟨_, .int m, rfl, lk1, ?_⟩
    walk_at "e"
    dsimp only [offA]
    walk_at "e"
    exact h
  | none =>
    rw [e] at h
    intro i o' f hi hk
    refine g_name ?_
    refine s_frz 3 (j := i) rfl (by omega) hk (.lst _) ?_
    refine s_ret (e_tup (a_cons (e_str (a_cons (e_var rfl (a_nil (exd2 ?_)))))))
    exact h _ (f.set hi)
theorem w__law_list_told (hB : B.θ.length = o.length) (c : c__law_list_told K ss o Rt Xt) : Wf (r__law_list_told K W) 5 B ss o Rt := by
  obtain ⟨w, i, k, m, rfl, ok, hl, hb, h⟩ := c
  unfold Wf r__law_list_told
  walk_at "st"
  walk_at "e"
  refine s_try (tb := fun W => tAsg (tIf (tTest (tOp (rEqP K) (tVar 1) (tC (.int 0)))) (tCallS (SpC (c_judge_knowing K)) (WE W) (tCons (tVar 0) (tCons (tVar 2) tNil))) (tCallS (SpC (c_takers_of K)) (WE W) (tCons (tVar 0) (tCons (tVar 2) tNil)))) (gName 3)) (fun _ _ _ _ => False) (fun _ _ _ _ z => z.elim) fun B' W' hX => ?_
  have bad : AX B' W' [some (.da (planD K w)), some (.da (.int i)), some (.da (knD k)), none, none] o (ga K "BadMoment") [("moment", .int m)] := by
    have h := h o (Fp.refl _)
    refine hX _ _ _ _ ⟨true, T.m_BadMoment_BadMoment, fun _ x dd => ?_, fun z => by cases z⟩
    walk_at "e"
    refine e_xf ?_
    walk_at "e"
    refine ⟨_, .int m, rfl, lk1, ?_⟩
    walk_at "e"
    dsimp only [offA]
    walk_at "e"
    exact h
  walk_at "e"
  refine ite_dec (fun hi => ?_) fun hi => ?_
  · walk_at "e"
    refine ⟨w, k, rfl, ok, hl, ?_⟩
    unfold knOn
    rw [hb]
    exact bad
  · walk_at "e"
    refine ⟨w, k, rfl, ok, hl, ?_⟩
    unfold knOn
    rw [hb]
    exact bad
theorem w__law_name_told (hB : B.θ.length = o.length) (c : c__law_name_told K ss o Rt Xt) : Wf (r__law_name_told K W) 6 B ss o Rt := by
  obtain ⟨w, i, a, b, rfl, ok, hb, h⟩ := c
  unfold Wf r__law_name_told
  walk_at "st"
  walk_at "e"
  refine s_try (tb := fun W => tAsg (tIf (tTest (tOp (rEqP K) (tVar 1) (tC (.int 0)))) (tCallS (SpC (c_cone_of K)) (WE W) (tCons (tVar 0) (tCons (tVar 2) tNil))) (tCallS (SpC (c_are_together K)) (WE W) (tCons (tVar 0) (tCons (tVar 2) (tCons (tVar 3) tNil))))) (gName 4)) (fun _ _ _ _ => False) (fun _ _ _ _ z => z.elim) fun B' W' hX => ?_
  have bad : AX B' W' [some (.da (planD K w)), some (.da (.int i)), some (.da (.str a)), some (.da (.str b)), none, none] o (ga K "BadNames") [("words", .lst (if i = 0 then [.str a] else [.str a, .str b]))] := by
    have h := h o (Fp.refl _)
    refine hX _ _ _ _ ⟨true, T.m_BadNames_BadNames, fun _ x dd => ?_, fun z => by cases z⟩
    walk_at "e"
    refine e_xf ?_
    walk_at "e"
    refine ⟨_, .lst (if i = 0 then [.str a] else [.str a, .str b]), rfl, lk1, ?_⟩
    walk_at "e"
    dsimp only [offA]
    walk_at "e"
    exact h
  walk_at "e"
  refine ite_dec (fun hi => ?_) fun hi => ?_
  · rw [if_pos hi] at bad
    have ha : a ∉ w.ds.map DR.n := by
      rcases hb with ⟨_, q⟩ | ⟨q, _⟩
      · exact q
      · omega
    walk_at "e"
    exact ⟨w, a, rfl, ok, fun _ => bad, fun z => absurd z ha⟩
  · rw [if_neg hi] at bad
    have ha : ¬(a ∈ w.ds.map DR.n ∧ b ∈ w.ds.map DR.n) := by
      rcases hb with ⟨q, _⟩ | ⟨_, q⟩
      · exact absurd q hi
      · exact q
    walk_at "e"
    exact ⟨w, a, b, rfl, ok, fun _ => bad, fun y z => absurd ⟨y, z⟩ ha⟩
end
end K07
end AB

set_option Elab.async false
set_option linter.all false
set_option maxRecDepth 100000
set_option maxHeartbeats 4000000
set_option autoImplicit false
namespace AB
open PySem L2 PySem.Spec PyProof.Rows He
namespace K07
local macro_rules | `(tactic| walk_at "e") => `(tactic| repeat' (first
  | (with_reducible refine s_seq ?_) | (with_reducible refine s_if ?_) | (with_reducible refine s_drop ?_) | (with_reducible refine s_ret ?_) | (with_reducible refine s_next ?_) | (with_reducible refine s_asg ?_)
  | (with_reducible refine g_name ?_)
  | (with_reducible refine t_test ?_) | (with_reducible refine t_B ?_) | (with_reducible refine t_or ?_) | (with_reducible refine t_and ?_) | (with_reducible refine t_not ?_)
  | ((with_reducible apply e_var); rfl) | (with_reducible refine e_int ?_) | (with_reducible refine e_str ?_) | (with_reducible refine e_bl ?_) | (with_reducible refine e_non ?_)
  | (with_reducible refine e_raw ?_) | (with_reducible refine ite_tt ?_) | (with_reducible refine ite_ff ?_) | (with_reducible refine ite_ntt ?_) | (with_reducible refine ite_nff ?_) | (with_reducible refine n_isiS ?_) | (with_reducible refine n_isiL ?_) | (with_reducible refine n_isiT ?_)
  | ((with_reducible apply e_ixc); (focus rfl); (focus rfl)) | ((with_reducible apply e_ixcT); (focus rfl); (focus rfl))
  | (with_reducible refine e_op ?_) | (with_reducible refine e_un ?_) | (with_reducible refine e_cb ?_) | (with_reducible refine e_callA ?_) | (with_reducible refine e_andV ?_) | (with_reducible refine e_if ?_)
  | (with_reducible refine a_cons ?_) | (with_reducible refine a_nil ?_)
  | (with_reducible refine o_gt ?_) | (with_reducible refine o_lt ?_) | (with_reducible refine o_le ?_) | (with_reducible refine o_ge ?_) | (with_reducible refine o_add ?_) | (with_reducible refine o_sub ?_) | (with_reducible refine o_neg ?_)
  | (with_reducible refine e_tup ?_) | (with_reducible refine e_lst ?_) | (with_reducible refine exd0 ?_) | (with_reducible refine exd1 ?_) | (with_reducible refine exd2 ?_) | (with_reducible refine exd3 ?_) | (with_reducible refine exd4 ?_) | (with_reducible refine exd5 ?_) | (with_reducible refine exd6 ?_)
  | (with_reducible refine o_isNotI ?_) | (with_reducible refine o_isNotN ?_) | (with_reducible refine o_isNotS ?_) | (with_reducible refine o_isI ?_) | (with_reducible refine o_isN ?_) | (with_reducible refine o_isS ?_) | (with_reducible refine o_isT ?_)
  | (with_reducible refine t_yes ?_) | (with_reducible refine gw_name (by decide) ?_)
  | (with_reducible refine s_par ?_) | (with_reducible refine ex2 ?_) | (with_reducible refine o_eqI ?_) | (with_reducible refine o_neI ?_) | (with_reducible refine o_ixL (by assumption) (by assumption) ?_)
  | (with_reducible refine e_sl ?_) | (with_reducible refine l_none ?_) | (with_reducible refine l_some ?_)
  | (with_reducible refine n_list (by assumption) ?_)
  | (with_reducible refine s_par3 ?_) | (with_reducible refine o_isB ?_)
  | (with_reducible refine g_u2 ?_) | (with_reducible refine g_u3 ?_) | (with_reducible refine g_u4 ?_) | (with_reducible refine g_u5 ?_) | (with_reducible refine g_u6 ?_) | (with_reducible refine g_cons ?_) | (with_reducible refine g_nil ?_) | (with_reducible refine gw_u2 ?_) | (with_reducible refine gw_u3 ?_) | (with_reducible refine gw_u4 ?_) | (with_reducible refine gw_u5 ?_) | (with_reducible refine gw_u6 ?_) | (with_reducible refine gw_cons ?_) | (with_reducible refine gw_nil ?_)
  | (with_reducible refine e_chain ?_) | (with_reducible refine e_chain3 ?_) | (with_reducible refine e_orV ?_) | (with_reducible refine e_notV ?_)
  | (with_reducible refine ite_dec (fun h => absurd h (by decide)) (fun _ => ?_)) | (with_reducible refine ite_dec (fun _ => ?_) (fun h => absurd (by decide) h))
  | (with_reducible refine ite_dec (fun _ => ?_) (fun h => absurd (by omega) h)) | (with_reducible refine ite_dec (fun h => absurd h (by omega)) (fun _ => ?_))
  | (with_reducible refine ite_ndec (fun _ => ?_) (fun h => absurd h (by omega))) | (with_reducible refine ite_ndec (fun h => absurd (by omega) h) (fun _ => ?_))
  | (with_reducible refine Exists.intro _ (And.intro rfl ?_))))
local macro_rules | `(tactic| walk_at "st") => `(tactic| simp only [List.map_cons, List.map_nil, List.length_cons, List.length_nil, Nat.reduceAdd, Nat.reduceSub, List.replicate, List.cons_append, List.nil_append])
variable {K : PySem.W.Frag} {B : Base} {W : WX} {ss : List Sl} {o : O} {Rt : Sl → O → Prop} {Xt : Addr → List (Str × D) → O → Prop}
section
variable {mg : Str → Option Value} (T : Tx K mg)
include T
omit T in
theorem frange (i : Int) (h : 0 ≤ i) (h2 : i ≤ 1) : fit i := ⟨by omega, by omega⟩
omit T in
theorem world_ok {hc last : Int} {ms : List Str} {ds : List DR} {ss : List SR} {ls : List LR} {m0 : Str} (h1 : 1 ≤ hc) (h8 : hc ≤ 8) (t0 : 0 ≤ last) (t1 : last ≤ 24) (nm : ms.length ≤ 6) (mw : ∀ m, m ∈ ms → isW m = true) (mn : ms.Nodup) (hm : m0 ∈ ms) (nd : ds.length ≤ 40)
    (dw : ∀ r, r ∈ ds → isW r.n = true ∧ 1 ≤ r.h ∧ r.h ≤ hc ∧ 0 ≤ r.m ∧ r.m ≤ last ∧ r.lo = 0 ∧ r.hi = 1) (dn : (ds.map DR.n).Nodup) (nl : ls.length ≤ 160) (lw : ∀ r, r ∈ ls → lrOk hc last ms r) (ns : ss.length ≤ 24)
    (sw : ∀ r, r ∈ ss → r.mis ∈ ms ∧ 1 ≤ r.h ∧ r.h ≤ hc ∧ 0 ≤ r.m ∧ r.m ≤ last ∧ (r.doing = none → r.reach = 0) ∧ (∀ n, r.doing = some n → ∃ d, d ∈ ds ∧ d.n = n ∧ d.h = r.h ∧ d.m < r.m)) (fs : ∀ r, r ∈ ss → fit r.reach) : Wo.ok ⟨hc, last, ms, [[], [m0]], ds, [], ss, ls⟩ where
  h1 := h1
  h8 := h8
  t0 := t0
  t1 := t1
  nm := nm
  nc := by simp
  nd := nd
  nr := by simp
  ns := ns
  nl := nl
  fd := fun r hr => by
    obtain ⟨_, _, _, _, _, e1, e2⟩ := dw r hr
    rw [e1, e2]
    exact ⟨frange 0 (by decide) (by decide), frange 1 (by decide) (by decide)⟩
  fr := fun r hr => by cases hr
  fs := fs
  mw := mw
  mn := mn
  c0 := ⟨_, rfl⟩
  cn := by simp
  cm := fun c hc => by
    rcases List.mem_cons.mp hc with e | e
    · rw [e]; exact List.nil_sublist _
    · rw [List.mem_singleton.mp e]; exact List.singleton_sublist.mpr hm
  dw := fun r hr => by
    obtain ⟨q1, q2, q3, q4, q5, e1, e2⟩ := dw r hr
    exact ⟨q1, q2, q3, q4, q5, by rw [e1, e2]; decide⟩
  dn := dn
  rw_ := fun r hr => by cases hr
  sw := sw
  lw := lw
theorem w__law_word_world (hB : B.θ.length = o.length) (c : c__law_word_world K ss o Rt Xt) : Wf (r__law_word_world K W) 8 B ss o Rt := by
  obtain ⟨j, rfl, pu, h⟩ := c
  have jl := pu.lt
  unfold Wf r__law_word_world
  walk_at "st"
  walk_at "e"
  refine draw_in (by decide) (by decide) pu fun x1 o1 x10 x11 f1 => ?_
  walk_at "e"
  refine draw_in (by decide) (by decide) f1.pu fun x2 o2 x20 x21 f2 => ?_
  walk_at "e"
  refine draw_in (by decide) (by decide) f2.pu fun x3 o3 x30 x31 f3 => ?_
  walk_at "e"
  refine ⟨j, 1 + x3, rfl, f3.pu, by omega, by omega, fun ms o4 mw mn ml f4 => ?_⟩
  have F4 := ((f1.trans f2).trans f3).trans f4
  obtain ⟨m0, mr, hms⟩ : ∃ m0 mr, ms = m0 :: mr := by
    cases ms with
    | nil => simp at ml; omega
    | cons a r => exact ⟨a, r, rfl⟩
  refine g_name (s_seq (s_asg (e_lstO (a_nil ⟨Nat.zero_le _, g_name ?_⟩))))
  have F4' := F4.add [.lst []]
  have l4 := F4.len
  refine s_seq (s_for ?_)
  walk_at "e"
  refine draw_in (by decide) (by decide) F4'.pu fun x5 o5 x50 x51 f5 => ?_
  walk_at "e"
  refine ⟨j, 3 + x5, rfl, f5.pu, by omega, by omega, fun ws o6 ww wn wl f6 => ?_⟩
  have F6 := (F4'.trans f5).trans f6
  have hr6 : o6[o4.length]? = some (.lst (([] : List D).map Sl.da)) := f6.at (f5.at get_new (by omega)) (by omega)
  walk_at "e"
  have helpG : (1 : Int) ≤ 2 + x1 ∧ 2 + x1 ≤ 3 := by omega
  refine ⟨fun i ρ' o' => Fj j o o' ∧ ∃ (ds : List DR) (u : Option Sl), ds.map DR.n = ws.take i ∧ (∀ r, r ∈ ds → isW r.n = true ∧ 1 ≤ r.h ∧ r.h ≤ 2 + x1 ∧ 0 ≤ r.m ∧ r.m ≤ 1 + x2 ∧ r.lo = 0 ∧ r.hi = 1) ∧ o'[o4.length]? = some (.lst ((ds.map DR.d).map Sl.da)) ∧ ρ' = [some (.ow j), some (.da (.int (2 + x1))), some (.da (.int (1 + x2))), some (.da (.lst (txs ms))), some (.ow o4.length), u, none, none],
    ⟨F6, [], _, rfl, (fun r hr => by cases hr), hr6, rfl⟩, ?_, ?_⟩
  · rintro i d ρ' o' hd ⟨g0, ds, u, hn, hok, ho, rfl⟩
    obtain ⟨n, hn2, hnm, rfl, hi⟩ := map_get hd
    have dl : ds.length = i := by
      have := congrArg List.length hn
      rw [List.length_map, List.length_take] at this
      omega
    refine g_name (s_drop (e_app2 (acc := ds.map DR.d) rfl ho (by rw [List.length_map]; omega) ?_))
    walk_at "e"
    refine draw_in (by omega) (by omega) g0.pu fun y1 o8 y10 y11 g1 => ?_
    walk_at "e"
    refine draw_in (by omega) (by omega) g1.pu fun y2 o9 y20 y21 g2 => ?_
    have ho9 := g2.at (g1.at ho (by omega)) (by omega)
    walk_at "e"
    refine ⟨ho9, ((g0.trans g1).trans g2).set jl (by omega), ds ++ [⟨n, 1 + y1, y2, 0, 1⟩], _, ?_, fun r hr => ?_, ?_, rfl⟩
    · rw [List.take_add_one, hn2, List.map_append, hn]
      rfl
    · rcases List.mem_append.mp hr with q | q
      · exact hok r q
      · rw [List.mem_singleton.mp q]
        exact ⟨ww n hnm, by show 1 ≤ 1 + y1; omega, by show 1 + y1 ≤ _; omega, y20, by show y2 ≤ _; omega, rfl, rfl⟩
    · rw [List.getElem?_set_self (List.getElem?_eq_some_iff.mp ho9).1]
      simp
  rintro ρ' o' ⟨g0, ds, u, hn, hok, ho, rfl⟩
  rw [txs, List.length_map, List.take_length] at hn
  have dl : ds.length = ws.length := by rw [← hn, List.length_map]
  refine s_frz 4 (j := o4.length) rfl (by omega) ho (.lst _) ?_
  have g0' := g0.set (i := o4.length) (u := .gone) jl (by omega)
  walk_at "e"
  refine draw_in (by decide) (by decide) g0'.pu fun y3 oa y30 y31 g3 => ?_
  walk_at "e"
  refine ⟨j, 2 + x1, 1 + x2, ms, 1 + y3, rfl, g3.pu, by omega, by omega, by omega, by omega, mn, by omega, by omega, by omega, fun ls ob lok ll g4 => ?_⟩
  have G := (g0'.trans g3).trans g4
  refine g_name ?_
  obtain ⟨d0, dr, hds⟩ : ∃ d0 dr, ds = d0 :: dr := by
    cases ds with
    | nil => simp at dl; omega
    | cons a r => exact ⟨a, r, rfl⟩
  have hd0 : d0 ∈ ds := by rw [hds]; exact List.mem_cons_self ..
  obtain ⟨q1, q2, q3, q4, q5, q6, q7⟩ := hok d0 hd0
  have e0 : atI (ds.map DR.d) 0 = some (DR.d d0) := by rw [hds]; exact at0
  have m00 : atI (txs ms) 0 = some (.str m0) := by rw [hms]; exact at0
  have hm0 : m0 ∈ ms := by rw [hms]; exact List.mem_cons_self ..
  have fin : ∀ (ss : List SR), ss.length ≤ 1 → (∀ r, r ∈ ss → r.mis ∈ ms ∧ 1 ≤ r.h ∧ r.h ≤ 2 + x1 ∧ 0 ≤ r.m ∧ r.m ≤ 1 + x2 ∧ (r.doing = none → r.reach = 0) ∧ (∀ n, r.doing = some n → ∃ d, d ∈ ds ∧ d.n = n ∧ d.h = r.h ∧ d.m < r.m)) → (∀ r, r ∈ ss → fit r.reach) →
      WS B (tRet (tLst (tCons (tVar 1) (tCons (tVar 2) (tCons (tVar 3) (tCons (tLst (tCons (tLst tNil) (tCons (tLst (tCons (tOp (rIxA K) (tVar 3) (tC (.int 0))) tNil)) tNil))) (tCons (tVar 4) (tCons (tLst tNil) (tCons (tVar 7) (tCons (tVar 6) tNil)))))))))) { nx := fun _ o => Rt (.da .non) o, rt := Rt }
      [some (.ow j), some (.da (.int (2 + x1))), some (.da (.int (1 + x2))), some (.da (.lst (txs ms))), some (.da (.lst (ds.map DR.d))), u, some (.da (.lst (ls.map LR.d))), some (.da (.lst (ss.map SR.d)))] ob := by
    intro ss sl sok sf
    refine s_ret (e_lst ?_)
    refine a_cons (e_var rfl (a_cons (e_var rfl (a_cons (e_var rfl (a_cons (e_lst ?_)))))))
    refine a_cons (e_lst (a_nil (exd0 ?_)))
    refine a_cons (e_lst (a_cons (e_op (e_var rfl (e_int (o_ix m00 (a_nil (exd1 ?_))))))))
    refine a_nil (exd2 ?_)
    refine a_cons (e_var rfl (a_cons (e_lst (a_nil (exd0 ?_)))))
    refine a_cons (e_var rfl (a_cons (e_var rfl (a_nil (exd8 ?_)))))
    refine h ⟨2 + x1, 1 + x2, ms, [[], [m0]], ds, [], ss, ls⟩ ob ⟨world_ok (by omega) (by omega) (by omega) (by omega) (by omega) mw mn hm0 (by omega) hok (by rw [hn]; exact wn) (by omega) lok (by omega) sok sf, by show 2 ≤ 2 + x1; omega, by show 2 + x1 ≤ 3; omega, by show 1 ≤ 1 + x2; omega, by show 1 + x2 ≤ 4; omega, by show 3 ≤ ds.length; omega⟩ G
  have no : (fun ρ o1 => WS B (tRet (tLst (tCons (tVar 1) (tCons (tVar 2) (tCons (tVar 3) (tCons (tLst (tCons (tLst tNil) (tCons (tLst (tCons (tOp (rIxA K) (tVar 3) (tC (.int 0))) tNil)) tNil))) (tCons (tVar 4) (tCons (tLst tNil) (tCons (tVar 7) (tCons (tVar 6) tNil)))))))))) { nx := fun _ o => Rt (.da .non) o, rt := Rt } ρ o1)
      [some (.ow j), some (.da (.int (2 + x1))), some (.da (.int (1 + x2))), some (.da (.lst (txs ms))), some (.da (.lst (ds.map DR.d))), u, some (.da (.lst (ls.map LR.d))), some (.da (.lst []))] ob := fin [] (by simp) (fun r hr => by cases hr) (fun r hr => by cases hr)
  refine s_seq (s_asg (e_if (t_and (t_test (e_op (e_op (e_op (e_var rfl (e_int (o_ix e0 (e_int (o_ixT at1 (e_int (o_eqI ⟨_, rfl, ?_⟩))))))))))))))
  refine ite_dec (fun hh => ?_) fun hh => ?_
  · refine t_test (e_op (e_op (e_op (e_var rfl (e_int (o_ix e0 (e_int (o_ixT at2 (e_var rfl (o_lt ⟨_, rfl, ?_⟩))))))))))
    refine ite_dec (fun hm => ?_) fun hm => ?_
    · refine e_lst (a_cons (e_tup (a_cons (e_op (e_var rfl (e_int (o_ix m00 ?_)))))))
      refine a_cons (e_int (a_cons (e_var rfl (a_cons (e_op (e_op (e_var rfl (e_int (o_ix e0 (e_int (o_ixT at0 ?_)))))))))))
      refine a_cons (e_int (a_nil (exd5 ?_)))
      refine a_nil (exd1 (g_name ?_))
      refine fin [⟨m0, 1, 1 + x2, some d0.n, 1⟩] (by simp) (fun r hr => ?_) (fun r hr => ?_)
      · rw [List.mem_singleton.mp hr]
        exact ⟨hm0, Int.le_refl _, by show (1 : Int) ≤ 2 + x1; omega, by show 0 ≤ 1 + x2; omega, Int.le_refl _, (fun z => by cases z), fun n hn => ⟨d0, hd0, Option.some.inj hn, hh, hm⟩⟩
      · rw [List.mem_singleton.mp hr]
        exact frange 1 (by decide) (by decide)
    · exact e_lst (a_nil (exd0 (g_name no)))
  · exact ite_ff (e_lst (a_nil (exd0 (g_name no))))
theorem nd_eq {ds : List DR} (hn : (ds.map DR.n).Nodup) {r s : DR} (hr : r ∈ ds) (hs : s ∈ ds) (e : r.n = s.n) : r = s := by
  obtain ⟨i, hi, ei⟩ := List.getElem_of_mem hr
  obtain ⟨j, hj, ej⟩ := List.getElem_of_mem hs
  have key : ∀ a b, a < b → (ha : a < ds.length) → (hb : b < ds.length) → ds[a].n ≠ ds[b].n := fun a b hab ha hb => by
    have := List.pairwise_iff_getElem.mp hn a b (by rw [List.length_map]; exact ha) (by rw [List.length_map]; exact hb) hab
    rw [List.getElem_map, List.getElem_map] at this
    exact this
  rcases Nat.lt_trichotomy i j with z | z | z
  · exact absurd (by rw [ei, ej, e]) (key _ _ z hi hj)
  · subst z
    rw [← ei, ← ej]
  · exact absurd (by rw [ei, ej, e]) (key _ _ z hj hi)
theorem find_self {w : Wo} (ok : w.ok) {r : DR} (hr : r ∈ w.ds) : w.ds.find? (fun s => decide (s.n = r.n)) = some r := by
  obtain ⟨s, s1, s2, s3, s4⟩ := row_of ok (List.mem_map.mpr ⟨r, hr, rfl⟩)
  rw [s4, nd_eq T ok.dn s1 hr s2]
theorem cone_eq {w : Wo} (ok : w.ok) {r : DR} (hr : r ∈ w.ds) : coneF w r.n = takersF w (spreadF w [(r.h, r.m)]) := by
  unfold coneF
  rw [find_self T ok hr]
theorem cone_own {w : Wo} (ok : w.ok) {r : DR} (hr : r ∈ w.ds) : r.n ∈ coneF w r.n := by
  rw [cone_eq T ok hr]
  unfold takersF
  rw [List.mem_map]
  refine ⟨r, ?_, rfl⟩
  rw [List.mem_filter]
  exact ⟨hr, since_le.mpr (spread_hold (one_ok ok hr) (r.h, r.m) (List.mem_singleton_self _))⟩
theorem tog_eq {w : Wo} (ok : w.ok) {r s : DR} (hr : r ∈ w.ds) (hs : s ∈ w.ds) : toget w r.n s.n = decide (r.h = s.h ∧ r.m = s.m) := by
  unfold toget
  rw [find_self T ok hr, find_self T ok hs]
omit T in
theorem mt_kn (k : Kn) (hl : k.length ≤ 1000000) (n : Nat) : Mt (n + 2) (knD k) := by
  refine ⟨by unfold knL; rw [List.length_map]; exact hl, fun x hx => ?_⟩
  obtain ⟨y, _, rfl⟩ := List.mem_map.mp hx
  cases y <;> trivial
omit T in
theorem mt_txs (l : List Str) (hl : l.length ≤ 1000000) (n : Nat) : Mt (n + 2) (.lst (txs l)) := by
  refine ⟨by unfold txs; rw [List.length_map]; exact hl, fun x hx => ?_⟩
  obtain ⟨y, _, rfl⟩ := List.mem_map.mp hx
  trivial
omit T in
theorem takers_len {w : Wo} {k : Kn} : (takersF w k).length ≤ w.ds.length := by
  unfold takersF
  rw [List.length_map]
  exact List.length_filter_le _ _
omit T in
theorem MV.own {o : O} {j : Nat} {ds : List D} (h : o[j]? = some (.lst (ds.map Sl.da))) : MV o (.ow j) (.lst ds) := .inr ⟨ds, rfl, h⟩
theorem w__law_decisions_right (hB : B.θ.length = o.length) (c : c__law_decisions_right K ss o Rt Xt) : Wf (r__law_decisions_right K W) 9 B ss o Rt := by
  obtain ⟨w, cl, rfl, sm, hc, h⟩ := c
  have ok := sm.ok
  have b1 := ok.h1
  have b8 := ok.h8
  have a5 := ok.nd
  unfold Wf r__law_decisions_right
  walk_at "st"
  refine s_seq (s_for (e_ixc (ds := w.parts) (d := .lst (w.ds.map DR.d)) rfl rfl ⟨_, rfl, fun i ρ' o' => Fp o o' ∧ ∃ a b c d e f, ρ' = [some (.da (planD K w)), some (.da (worldD w)), some (.da (.lst (cl.map knD))), a, b, c, d, e, f], ⟨Fp.refl o, _, _, _, _, _, _, rfl⟩, ?_, ?_⟩))
  · rintro i d0 ρ' o1 hd ⟨f1, x1, x2, x3, x4, x5, x6, rfl⟩
    obtain ⟨r, hr, hm, rfl, hi⟩ := map_get hd
    have ho := one_ok ok hm
    have tp := spread_top ok hc ho
    have l1 := f1.len
    obtain ⟨S, hS⟩ : ∃ S, S = spreadF w [(r.h, r.m)] := ⟨_, rfl⟩
    have lS : S.length = w.hc.toNat := by rw [hS]; exact len_spread
    refine g_name (s_seq (s_asg (e_frz (e_callA (a_cons (e_var rfl (a_cons (e_var rfl (a_cons (e_lst (a_cons (e_tup (a_cons (e_ixcT rfl rfl (a_cons (e_ixcT rfl rfl (a_nil (exd2 ?_))))))))))))))))))
    refine a_nil (exd1 (a_nil ⟨w, cl, _, [(r.h, r.m)], spreadF w [(r.h, r.m)], rfl, ok, .cons (.t r.h r.m) .nil, fun p hp => ⟨(ho p hp).1, (ho p hp).2.1⟩, tp, fun i2 o2 f2 hi2 hk2 => ?_⟩))
    rw [← hS] at hk2
    refine ⟨i2, _, _, rfl, by omega, hk2, .lst _, g_name ?_⟩
    have f3 : Fp o (o2.set i2 .gone) := f1.trans (f2.set hi2)
    generalize o2.set i2 .gone = o3 at f3
    refine s_seq (s_range1 (a_cons (e_int (a_nil ⟨2, rfl, by decide, by decide, fun i ρ' o' => Fp o o' ∧ ∃ a b, ρ' = [some (.da (planD K w)), some (.da (worldD w)), some (.da (.lst (cl.map knD))), some (.da (DR.d r)), some (.da (knD S)), a, b, x5, x6], ⟨f3, _, _, rfl⟩, ?_, ?_⟩))))
    · rintro n ρ' o4 hn ⟨f4, a, b, rfl⟩
      refine g_name (s_seq (s_asg (e_callA (a_cons (e_var rfl (a_cons (e_ixcT rfl rfl (a_cons (e_ixcT rfl rfl (a_nil ⟨w, r.h, r.m, rfl, ok, spOn_ok ho (by simp) fun i5 o5 f5 hi5 hk5 => g_name ?_⟩))))))))))
      rw [← hS] at hk5
      refine s_seq (s_if (t_not (t_B (e_callA (a_cons (e_var rfl (a_cons (e_var rfl (a_nil ⟨.ow i5, .da (knD S), knD S, rfl, MV.own hk5, .inl rfl, mt_kn S (by omega) 2, _, rfl, ?_⟩)))))))))
      refine ite_ff (s_next ?_)
      have hp : 0 < (knL S).length := by unfold knL; rw [List.length_map]; omega
      have l4 := f4.len
      refine s_asg (e_int (AB.g_set (e_var rfl (e_int ⟨i5, _, 0, 0, rfl, rfl, hk5, ?_, (f4.trans f5).set (by omega), _, _, rfl⟩))))
      unfold ixN
      rw [if_pos (by decide), if_pos (by rw [List.length_map]; omega)]
      rfl
    rintro ρ' o4 ⟨f4, a, b, rfl⟩
    have l4 := f4.len
    have hn : r.n ∈ w.ds.map DR.n := List.mem_map.mpr ⟨r, hm, rfl⟩
    refine s_seq (s_asg (e_callA (a_cons (e_var rfl (a_cons (e_ixcT rfl rfl (a_nil ⟨w, r.n, rfl, ok, fun z => absurd hn z, fun _ i5 o5 f5 hi5 hk5 => g_name ?_⟩)))))))
    refine s_seq (s_if (t_or (t_test (e_op (e_ixcT rfl rfl (e_var rfl (o_notInLL (ds := txs (coneF w r.n)) hk5 rfl (py_txs _) (by simp [D.py, PyData.depth]) ?_)))))))
    rw [any_txs, dt (cone_own T ok hm)]
    refine ⟨_, rfl, ite_ff (t_not (t_B (e_callA (a_cons (e_var rfl ?_)))))⟩
    refine a_cons (e_callA (a_cons (e_var rfl (a_cons (e_var rfl (a_nil ⟨w, S, rfl, ok, lS, fun i6 o6 f6 hi6 hk6 => ?_⟩))))))
    have ec : coneF w r.n = takersF w S := by rw [cone_eq T ok hm, hS]
    rw [ec] at hk5
    have tl := takers_len (w := w) (k := S)
    refine a_nil ⟨.ow i5, .ow i6, .lst (txs (takersF w S)), rfl, MV.own (f6.get hk5), MV.own hk6, mt_txs _ (by omega) 2, _, rfl, ite_ff (s_next ?_)⟩
    have F6 := (f4.trans f5).trans f6
    have l5 := f5.len
    refine s_seq (s_drop (e_app (acc := txs (takersF w S)) rfl (f6.get hk5) (by unfold txs; rw [List.length_map]; omega) (a_cons (e_ixcT rfl rfl (a_nil ⟨.str r.n, rfl, rfl, ?_⟩)))))
    have F7 := F6.set (i := i5) (u := .lst ((txs (takersF w S) ++ [D.str r.n]).map Sl.da)) (by omega)
    generalize o6.set i5 (.lst ((txs (takersF w S) ++ [D.str r.n]).map Sl.da)) = o7 at F7
    refine s_for (e_ixc (ds := w.parts) (d := .lst (w.ds.map DR.d)) rfl rfl ⟨_, rfl, fun i ρ' o' => Fp o o' ∧ ∃ a b c d e, ρ' = [some (.da (planD K w)), some (.da (worldD w)), some (.da (.lst (cl.map knD))), some (.da (DR.d r)), a, b, c, d, e], ⟨F7, _, _, _, _, _, rfl⟩, ?_, ?_⟩)
    · rintro n d1 ρ' o8 hd1 ⟨F8, y1, y2, y3, y4, y5, rfl⟩
      obtain ⟨s, hs, hsm, rfl, _⟩ := map_get hd1
      have hsn : s.n ∈ w.ds.map DR.n := List.mem_map.mpr ⟨s, hsm, rfl⟩
      refine g_name (s_if (t_not (t_B (e_callA (a_cons (e_callA (a_cons (e_var rfl (a_cons (e_ixcT rfl rfl (a_cons (e_ixcT rfl rfl (a_nil ⟨w, r.n, s.n, rfl, ok, fun z => absurd ⟨hn, hsn⟩ z, fun _ _ => ?_⟩)))))))))))))
      refine a_cons (e_op (e_sl (e_var rfl (l_some (e_int ⟨_, rfl, l_some (e_int ⟨_, rfl, wl_tup ?_⟩)⟩)))))
      refine e_sl (e_var rfl (l_some (e_int ⟨_, rfl, l_some (e_int ⟨_, rfl, wl_tup ?_⟩)⟩)))
      have c1 : ∀ q : DR, cutD [D.str q.n, .int q.h, .int q.m, .int q.lo, .int q.hi] (some 1) (some 3) = [.int q.h, .int q.m] := fun q => rfl
      rw [c1, c1]
      refine o_eq rfl rfl (by simp [D.py, D.pyL, PyData.depth, PyData.depthAll]) ?_
      rw [eqv_2, tog_eq T ok hm hsm]
      refine a_nil ⟨_, _, .bl (decide (r.h = s.h ∧ r.m = s.m)), rfl, .inl rfl, .inl rfl, trivial, _, rfl, ite_ff (s_next ⟨F8, _, _, _, _, _, rfl⟩)⟩
    · rintro ρ' o8 ⟨F8, y1, y2, y3, y4, y5, rfl⟩
      exact ⟨F8, _, _, _, _, _, _, rfl⟩
  rintro ρ' o' ⟨f1, x1, x2, x3, x4, x5, x6, rfl⟩
  exact s_ret (e_bl (h o' f1))
end
end K07
end AB

set_option Elab.async false
set_option linter.all false
set_option maxRecDepth 100000
set_option maxHeartbeats 4000000
set_option autoImplicit false
namespace AB
open PySem L2 PySem.Spec PyProof.Rows He
namespace K07
local macro_rules | `(tactic| walk_at "e") => `(tactic| repeat' (first
  | (with_reducible refine s_seq ?_) | (with_reducible refine s_if ?_) | (with_reducible refine s_drop ?_) | (with_reducible refine s_ret ?_) | (with_reducible refine s_next ?_) | (with_reducible refine s_asg ?_)
  | (with_reducible refine g_name ?_)
  | (with_reducible refine t_test ?_) | (with_reducible refine t_B ?_) | (with_reducible refine t_or ?_) | (with_reducible refine t_and ?_) | (with_reducible refine t_not ?_)
  | ((with_reducible apply e_var); rfl) | (with_reducible refine e_int ?_) | (with_reducible refine e_str ?_) | (with_reducible refine e_bl ?_) | (with_reducible refine e_non ?_)
  | (with_reducible refine e_raw ?_) | (with_reducible refine ite_tt ?_) | (with_reducible refine ite_ff ?_) | (with_reducible refine ite_ntt ?_) | (with_reducible refine ite_nff ?_) | (with_reducible refine n_isiS ?_) | (with_reducible refine n_isiL ?_) | (with_reducible refine n_isiT ?_)
  | ((with_reducible apply e_ixc); (focus rfl); (focus rfl)) | ((with_reducible apply e_ixcT); (focus rfl); (focus rfl))
  | (with_reducible refine e_op ?_) | (with_reducible refine e_un ?_) | (with_reducible refine e_cb ?_) | (with_reducible refine e_callA ?_) | (with_reducible refine e_andV ?_) | (with_reducible refine e_if ?_)
  | (with_reducible refine a_cons ?_) | (with_reducible refine a_nil ?_)
  | (with_reducible refine o_gt ?_) | (with_reducible refine o_lt ?_) | (with_reducible refine o_le ?_) | (with_reducible refine o_ge ?_) | (with_reducible refine o_add ?_) | (with_reducible refine o_sub ?_) | (with_reducible refine o_neg ?_)
  | (with_reducible refine e_tup ?_) | (with_reducible refine e_lst ?_) | (with_reducible refine exd0 ?_) | (with_reducible refine exd1 ?_) | (with_reducible refine exd2 ?_) | (with_reducible refine exd3 ?_) | (with_reducible refine exd4 ?_) | (with_reducible refine exd5 ?_) | (with_reducible refine exd6 ?_)
  | (with_reducible refine o_isNotI ?_) | (with_reducible refine o_isNotN ?_) | (with_reducible refine o_isNotS ?_) | (with_reducible refine o_isI ?_) | (with_reducible refine o_isN ?_) | (with_reducible refine o_isS ?_) | (with_reducible refine o_isT ?_)
  | (with_reducible refine t_yes ?_) | (with_reducible refine gw_name (by decide) ?_)
  | (with_reducible refine s_par ?_) | (with_reducible refine ex2 ?_) | (with_reducible refine o_eqI ?_) | (with_reducible refine o_neI ?_) | (with_reducible refine o_ixL (by assumption) (by assumption) ?_)
  | (with_reducible refine e_sl ?_) | (with_reducible refine l_none ?_) | (with_reducible refine l_some ?_)
  | (with_reducible refine n_list (by assumption) ?_)
  | (with_reducible refine s_par3 ?_) | (with_reducible refine o_isB ?_)
  | (with_reducible refine g_u2 ?_) | (with_reducible refine g_u3 ?_) | (with_reducible refine g_u4 ?_) | (with_reducible refine g_u5 ?_) | (with_reducible refine g_u6 ?_) | (with_reducible refine g_cons ?_) | (with_reducible refine g_nil ?_) | (with_reducible refine gw_u2 ?_) | (with_reducible refine gw_u3 ?_) | (with_reducible refine gw_u4 ?_) | (with_reducible refine gw_u5 ?_) | (with_reducible refine gw_u6 ?_) | (with_reducible refine gw_cons ?_) | (with_reducible refine gw_nil ?_)
  | (with_reducible refine e_chain ?_) | (with_reducible refine e_chain3 ?_) | (with_reducible refine e_orV ?_) | (with_reducible refine e_notV ?_)
  | (with_reducible refine ite_dec (fun h => absurd h (by decide)) (fun _ => ?_)) | (with_reducible refine ite_dec (fun _ => ?_) (fun h => absurd (by decide) h))
  | (with_reducible refine ite_dec (fun _ => ?_) (fun h => absurd (by omega) h)) | (with_reducible refine ite_dec (fun h => absurd h (by omega)) (fun _ => ?_))
  | (with_reducible refine ite_ndec (fun _ => ?_) (fun h => absurd h (by omega))) | (with_reducible refine ite_ndec (fun h => absurd (by omega) h) (fun _ => ?_))
  | (with_reducible refine Exists.intro _ (And.intro rfl ?_))))
local macro_rules | `(tactic| walk_at "st") => `(tactic| simp only [List.map_cons, List.map_nil, List.length_cons, List.length_nil, Nat.reduceAdd, Nat.reduceSub, List.replicate, List.cons_append, List.nil_append])
variable {K : PySem.W.Frag} {B : Base} {W : WX} {ss : List Sl} {o : O} {Rt : Sl → O → Prop} {Xt : Addr → List (Str × D) → O → Prop}
section
variable {mg : Str → Option Value} (T : Tx K mg)
include T
/-! ### drawn starts -/
def pairD (p : Int × Int) : D := .tup [.int p.1, .int p.2]
omit T in
theorem pr_map : ∀ st : List (Int × Int), Paired Pr (st.map pairD) st
  | [] => .nil
  | (a, b) :: r => .cons (.t a b) (pr_map r)
omit T in
theorem pr_mapL : ∀ st : List (Int × Int), Paired Pr (st.map fun p => D.lst [.int p.1, .int p.2]) st
  | [] => .nil
  | (a, b) :: r => .cons (.l a b) (pr_mapL r)
omit T in
/-- n drawn couples -/
theorem e_pairs {ρ : R} {j : Nat} {ok : Int × Int → Prop} {t : TA} {te : TE} {g : Nat} {P : Sl → O → Prop}
    (h : AA B t ρ o fun xs o1 => ∃ n : Int, xs = [.da (.int n)] ∧ 0 ≤ n ∧ n ≤ 1000 ∧ Pu o1 j ∧
      (∀ (i : Nat) o2, Fj j o1 o2 → AE B te ((wipeR ρ [g]).set g (some (.da (.int (i : Int))))) o2 fun y o3 => ∃ p, y = .da (pairD p) ∧ ok p ∧ Fj j o2 o3) ∧
      ∀ (st : List (Int × Int)) o2, st.length = n.toNat → (∀ p, p ∈ st → ok p) → Fj j o1 o2 → P (.da (.lst (st.map pairD))) o2) :
    AE B (tLc (iRng1 t) (gName g) tYes te [g]) ρ o P := by
  refine e_lcR1 fun F H θ σ k Q q => h F H θ σ k Q fun vs xs F' H' θ' o1 t k' r e => q vs xs F' H' θ' o1 t k' r ?_
  obtain ⟨n, rfl, n0, n1, pu, step, fin⟩ := e
  refine ⟨n, rfl, by omega, by omega, fun i acc o2 => i ≤ n.toNat ∧ Fj j o1 o2 ∧ ∃ st : List (Int × Int), st.length = i ∧ (∀ p, p ∈ st → ok p) ∧ acc = st.map pairD, ⟨by omega, Fj.refl pu, [], rfl, (fun p hp => by cases hp), rfl⟩, ?_, ?_, ?_⟩
  · rintro i acc o2 ⟨hi, _, st, hl, _, rfl⟩
    rw [List.length_map]
    omega
  · rintro i acc o2 hi ⟨_, f, st, hl, hok, rfl⟩
    refine gw_name (by simp) (t_yes (ite_tt ((step i o2 f).mono fun y o3 e => ?_)))
    obtain ⟨p, rfl, hp, f3⟩ := e
    refine ⟨_, rfl, by omega, f.trans f3, st ++ [p], by simp [hl], fun p' hp' => ?_, by rw [List.map_append]; rfl⟩
    rcases List.mem_append.mp hp' with z | z
    · exact hok p' z
    · rw [List.mem_singleton.mp z]; exact hp
  · rintro acc o2 ⟨_, f, st, hl, hok, rfl⟩
    exact fin st o2 hl hok f
omit T in
theorem e_if1 {ρ : R} {a b : Nat} {x y : Int} {P : Sl → O → Prop} (ha : ρ[a]? = some (some (.da (.int x)))) (hb : ρ[b]? = some (some (.da (.int y)))) (p : P (.da (.int (if x = 1 then y else x))) o) : AE B (tIf (tTest (tOp (rEqP K) (tVar a) (tC (.int 1)))) (tVar b) (tVar a)) ρ o P := by
  refine e_if (t_test (e_op (e_var ha (e_int (o_eqI ⟨_, rfl, ?_⟩)))))
  refine ite_dec (fun h => ?_) fun h => ?_
  · rw [if_pos h] at p
    exact e_var hb p
  · rw [if_neg h] at p
    exact e_var ha p
omit T in
theorem mt_told (s : Str) (d : D) (n : Nat) (h : Mt (n + 1) d) : Mt (n + 2) (.tup [.str s, d]) := ⟨Nat.le_of_ble_eq_true rfl, fun x hx => by
  rcases List.mem_cons.mp hx with e | e
  · rw [e]; exact True.intro
  · rw [List.mem_singleton.mp e]; exact h⟩
omit T in
theorem pick4 {a b c d r : Int} (h0 : 0 ≤ r) (h4 : r < 4) : ∃ v, atI [D.int a, .int b, .int c, .int d] r = some (.int v) ∧ (r = 0 ∧ v = a ∨ r = 1 ∧ v = b ∨ r = 2 ∧ v = c ∨ r = 3 ∧ v = d) := by
  have : r = 0 ∨ r = 1 ∨ r = 2 ∨ r = 3 := by omega
  rcases this with rfl | rfl | rfl | rfl
  · exact ⟨a, rfl, by simp⟩
  · exact ⟨b, rfl, by simp⟩
  · exact ⟨c, rfl, by simp⟩
  · exact ⟨d, rfl, by simp⟩
omit T in
theorem stBad_app {w : Wo} {q : Int × Int} {r : List (Int × Int)} : ∀ {st : List (Int × Int)}, StOk w st → stBad w (st ++ q :: r) = stBad w (q :: r)
  | [], _ => rfl
  | p :: t, h => by
    have hq := h p (List.mem_cons_self ..)
    rw [List.cons_append, stBad_cons, if_neg (by omega), if_neg (by omega)]
    exact stBad_app fun p' hp' => h p' (List.mem_cons_of_mem _ hp')
omit T in
theorem strange_not {w : Wo} (ok : w.ok) {s z : Str} (hz : 12 ≤ z.length) (h1 : 1 ≤ s.length) : s ++ z ∉ w.ds.map DR.n := fun h => by
  obtain ⟨r, hr, e⟩ := List.mem_map.mp h
  have := isW_len (ok.dw r hr).1
  rw [e, slen_app] at this
  omega
omit T in
theorem bad_kn {w : Wo} {a b : Nat} {m : Int} (hm : ¬(0 ≤ m ∧ m ≤ w.last)) : kBad w (List.replicate a none ++ [some m] ++ List.replicate b (some (-9))) = some m := by
  unfold kBad
  have h1 : (List.replicate a (none : Option Int)).find? (bad1 w) = none := by
    rw [List.find?_eq_none]
    intro x hx
    rw [List.eq_of_mem_replicate hx]
    exact Bool.false_ne_true
  have h2 : bad1 w (some m) = true := by unfold bad1; dsimp only; rw [decide_eq_false hm]; rfl
  rw [List.append_assoc, List.find?_append, h1, List.singleton_append, List.find?_cons, h2]
  rfl
omit T in
theorem bad_knL {a b : Nat} {m : Int} : (List.replicate a [D.non]).flatten ++ [D.int m] ++ (List.replicate b [D.int (-9)]).flatten = knL (List.replicate a none ++ [some m] ++ List.replicate b (some (-9))) := by
  unfold knL
  rw [List.map_append, List.map_append, List.map_replicate, List.map_replicate, List.flatten_replicate_singleton, List.flatten_replicate_singleton]
  rfl
theorem w__law_errors_right (hB : B.θ.length = o.length) (c : c__law_errors_right K ss o Rt Xt) : Wf (r__law_errors_right K W) 18 B ss o Rt := by
  obtain ⟨j, w, rfl, pu, sm, h⟩ := c
  have ok := sm.ok
  have b1 := ok.h1
  have b8 := ok.h8
  have t0 := ok.t0
  have t1 := ok.t1
  have a5 := ok.nd
  have d3 := sm.d3
  have jl := pu.lt
  obtain ⟨r0, r1, rr, hds⟩ : ∃ r0 r1 rr, w.ds = r0 :: r1 :: rr := by
    cases e : w.ds with
    | nil => rw [e] at d3; simp at d3
    | cons a r =>
      cases r with
      | nil => rw [e] at d3; simp at d3
      | cons b t => exact ⟨a, b, t, rfl⟩
  have m0 : r0 ∈ w.ds := by rw [hds]; exact List.mem_cons_self ..
  have m1 : r1 ∈ w.ds := by rw [hds]; exact List.mem_cons_of_mem _ (List.mem_cons_self ..)
  have w0 := isW_len (ok.dw r0 m0).1
  have n0 : r0.n ∈ w.ds.map DR.n := List.mem_map.mpr ⟨r0, m0, rfl⟩
  have k0 : atI (txs (w.ds.map DR.n)) 0 = some (.str r0.n) := by rw [hds]; exact at0
  have k1 : atI (txs (w.ds.map DR.n)) 1 = some (.str r1.n) := by rw [hds]; exact at1
  have hz : ("zzzzzzzzzzzz" : Str).length = 12 := by decide +kernel
  have sn : r0.n ++ ("zzzzzzzzzzzz" : Str) ∉ w.ds.map DR.n := strange_not ok (by rw [hz]; decide) w0.1
  generalize hst : r0.n ++ ("zzzzzzzzzzzz" : Str) = strange at sn
  unfold Wf r__law_errors_right
  walk_at "st"
  refine s_seq (s_asg (lc_map DR.d (fun r => .str r.n) w.ds (by omega) (e_ixc (ds := w.parts) (d := .lst (w.ds.map DR.d)) rfl rfl ⟨rfl, rfl⟩) (fun r hr => gw_name (by simp) ⟨rfl, e_ixcT rfl rfl ⟨rfl, rfl⟩⟩) (g_name ?_)))
  rw [nm_map T]
  refine s_seq (s_asg (e_op (e_op (e_var rfl (e_int (o_ix k0 (e_str (o_addS (sizeBig (by rw [hz]; omega)) (g_name ?_)))))))))
  rw [hst]
  have p6 : (10 : Int) ^ (6 : Int).toNat = 1000000 := by decide
  refine s_seq (s_asg (e_lst (a_cons (e_int (a_cons (e_int (a_cons (e_op (e_ixc (ds := w.parts) (d := .int w.hc) rfl rfl (e_int (o_add ?_)))))))))))
  refine a_cons (e_op (e_un (e_int (o_neg (e_callA (a_cons (e_var rfl (a_cons (e_op (e_int (e_int (o_pow ⟨by decide, by decide, by decide⟩ (a_nil (draw_in (by decide) (by decide) pu fun x1 o1 x10 x11 f1 => ?_))))))))))))))
  refine o_sub (a_nil (exd4 (g_name ?_)))
  refine s_seq (s_asg (e_lst (a_cons (e_int (a_cons (e_un (e_int (o_neg (a_cons (e_op (e_ixc (ds := w.parts) (d := .int w.last) rfl rfl (e_int (o_add ?_)))))))))))))
  refine a_cons (e_op (e_op (e_ixc (ds := w.parts) (d := .int w.last) rfl rfl (e_int (o_add ?_)))))
  refine e_callA (a_cons (e_var rfl (a_cons (e_op (e_int (e_int (o_pow ⟨by decide, by decide, by decide⟩ (a_nil (draw_in (by decide) (by decide) f1.pu fun x2 o2 x20 x21 f2 => ?_)))))))))
  refine o_add (a_nil (exd4 (g_name ?_)))
  refine s_seq (s_asg (e_pairs (j := j) (ok := fun p => 1 ≤ p.1 ∧ p.1 ≤ w.hc ∧ p.2 = w.last) (a_cons (e_callA (a_cons (e_var rfl (a_cons (e_int (a_nil (draw_in (by decide) (by decide) f2.pu fun x3 o3 x30 x31 f3 => ?_))))))))))
  refine a_nil ⟨x3, rfl, x30, by omega, f3.pu, fun i o4 f4 => ?_, fun st o4 hl hok f4 => g_name ?_⟩
  · refine e_tup (a_cons (e_op (e_int (e_callA (a_cons (e_var rfl (a_cons (e_ixc (ds := w.parts) (d := .int w.hc) rfl rfl (a_nil (draw_in (by omega) (by omega) f4.pu fun y o5 y0 y1 f5 => o_add ?_))))))))))
    refine a_cons (e_ixc (ds := w.parts) (d := .int w.last) rfl rfl (a_nil (exd2 ⟨(1 + y, w.last), rfl, ⟨by show 1 ≤ 1 + y; omega, by show 1 + y ≤ w.hc; omega, rfl⟩, f5⟩)))
  have F4 := ((f1.trans f2).trans f3).trans f4
  have hso : StOk w st := fun p hp => by
    obtain ⟨q1, q2, q3⟩ := hok p hp
    omega
  refine s_seq (s_par (a_cons (e_op (e_var rfl (e_callA (a_cons (e_var rfl (a_cons (e_int (a_nil (draw_in (by decide) (by decide) F4.pu fun x5 o5 x50 x51 f5 => ?_)))))))))))
  obtain ⟨hv, hv1, hv2⟩ := pick4 (a := 1) (b := 0) (c := w.hc + 1) (d := -1 - x1) x50 x51
  refine o_ix hv1 ?_
  refine a_cons (e_op (e_var rfl (e_op (e_int (e_callA (a_cons (e_var rfl (a_cons (e_int (a_nil (draw_in (by decide) (by decide) f5.pu fun x6 o6 x60 x61 f6 => o_add ?_)))))))))))
  obtain ⟨mv, mv1, mv2⟩ := pick4 (a := 0) (b := -1) (c := w.last + 1) (d := w.last + 1 + x2) (r := 1 + x6) (by omega) (by omega)
  refine o_ix mv1 (a_nil (ex2 ?_))
  have F6 := (F4.trans f5).trans f6
  have hvb : hv = 1 ∨ ¬(1 ≤ hv ∧ hv ≤ w.hc) := by omega
  have mvb : ¬(0 ≤ mv ∧ mv ≤ w.last) := by omega
  have first : ∀ r, stBad w ((hv, mv) :: r) = some (if hv = 1 then mv else hv) := fun r => by
    rw [stBad_cons]
    by_cases e : hv = 1
    · rw [if_pos e, if_neg (by omega), if_pos mvb]
    · rw [if_neg e, if_pos (by omega)]
  refine s_seq (s_asg (e_tup (a_cons (e_str (a_cons (e_if1 rfl rfl ?_))))))
  obtain ⟨due, hdue⟩ : ∃ due : Int, due = if hv = 1 then mv else hv := ⟨_, rfl⟩
  rw [← hdue] at first
  rw [← hdue]
  refine a_nil (exd2 (g_name ?_))
  have sp1 : spTold w (st ++ [(hv, mv), (0, -7)]) = .tup [.str "moment", .int due] := by
    unfold spTold
    rw [if_neg (by rw [List.length_append]; simp; omega), stBad_app hso, first]
  have sp2 : spTold w [(hv, mv)] = .tup [.str "moment", .int due] := by
    unfold spTold
    rw [if_neg (by simp), first]
  have mtd : Mt 4 (.tup [.str "moment", .int due]) := mt_told _ _ 2 trivial
  have mtm : Mt 4 (.tup [.str "moment", .int mv]) := mt_told _ _ 2 trivial
  refine s_seq (s_if (t_not (t_B (e_callA (a_cons (e_callA (a_cons (e_var rfl (a_cons (e_op (e_var rfl (e_lst ?_))))))))))))
  refine a_cons (e_tup (a_cons (e_var rfl (a_cons (e_var rfl (a_nil (exd2 ?_)))))))
  refine a_cons (e_tup (a_cons (e_int (a_cons (e_un (e_int (o_neg (a_nil (exd2 ?_)))))))))
  refine a_nil (exd2 (o_addL (ds := st.map pairD) (es := [pairD (hv, mv), pairD (0, -7)]) rfl rfl (sizeBig (by rw [List.length_map]; simp; omega)) ?_))
  refine a_nil ⟨w, _, st ++ [(hv, mv), (0, -7)], rfl, ok, ?_, by rw [List.length_append]; simp; omega, fun o7 f7 => ?_⟩
  · have := pr_map (st ++ [(hv, mv), (0, -7)])
    rw [List.map_append] at this
    exact this
  rw [sp1]
  refine a_cons (e_var rfl (a_nil ⟨_, _, _, rfl, .inl rfl, .inl rfl, mtd, _, rfl, ite_ff (s_next ?_)⟩))
  have F7 := F6.ofFp f7
  refine s_seq (s_if (t_not (t_B (e_callA (a_cons (e_callA (a_cons (e_var rfl (a_cons (e_var rfl (a_cons (e_var rfl (a_nil ⟨w, hv, mv, rfl, ok, fun o8 f8 => ?_⟩)))))))))))))
  rw [sp2]
  refine a_cons (e_var rfl (a_nil ⟨_, _, _, rfl, .inl rfl, .inl rfl, mtd, _, rfl, ite_ff (s_next ?_)⟩))
  have F8 := F7.ofFp f8
  refine s_seq (s_asg (e_callA (a_cons (e_var rfl (a_cons (e_ixc (ds := w.parts) (d := .int w.hc) rfl rfl (a_nil (draw_in (by omega) (by omega) F8.pu fun at9 o9 x90 x91 f9 => g_name ?_))))))))
  have F9 := F8.trans f9
  refine s_seq (s_asg (e_op (e_op (e_op (e_lst (a_cons (e_non (a_nil (exd1 ?_)))))))))
  refine e_var rfl (o_rep (ds := [D.non]) rfl (by omega) (by omega) (by rw [sizeLine_eq]; simp; omega) ?_)
  refine e_lst (a_cons (e_var rfl (a_nil (exd1 ?_))))
  refine o_addL (ds := (List.replicate at9.toNat [D.non]).flatten) (es := [D.int mv]) rfl rfl (sizeBig (by rw [List.flatten_replicate_singleton, List.length_replicate]; simp; omega)) ?_
  refine e_op (e_lst (a_cons (e_un (e_int (o_neg (a_nil (exd1 ?_)))))))
  refine e_op (e_op (e_ixc (ds := w.parts) (d := .int w.hc) rfl rfl (e_var rfl (o_sub (e_int (o_sub ?_))))))
  refine o_rep (ds := [D.int (-9)]) rfl (by omega) (by omega) (by rw [sizeLine_eq]; simp; omega) ?_
  refine o_addL (ds := (List.replicate at9.toNat [D.non]).flatten ++ [D.int mv]) (es := (List.replicate (w.hc - at9 - 1).toNat [D.int (-9)]).flatten) rfl rfl (sizeBig (by rw [List.length_append, List.flatten_replicate_singleton, List.flatten_replicate_singleton, List.length_replicate, List.length_replicate]; simp; omega)) (g_name ?_)
  rw [bad_knL]
  have hbk := bad_kn (a := at9.toNat) (b := (w.hc - at9 - 1).toNat) mvb
  have hbl : (List.replicate at9.toNat (none : Option Int) ++ [some mv] ++ List.replicate (w.hc - at9 - 1).toNat (some (-9))).length = w.hc.toNat := by
    simp
    omega
  generalize (List.replicate at9.toNat (none : Option Int) ++ [some mv] ++ List.replicate (w.hc - at9 - 1).toNat (some (-9))) = kb at hbk hbl
  refine s_seq (s_range1 (a_cons (e_int (a_nil ⟨2, rfl, by decide, by decide, fun i ρ' o' => Fj j o o' ∧ ∃ x, ρ' = [some (.ow j), some (.da (planD K w)), some (.da (worldD w)), some (.da (.lst (txs (w.ds.map DR.n)))), some (.da (.str strange)), some (.da (.lst [D.int 1, D.int 0, D.int (w.hc + 1), D.int (-1 - x1)])), some (.da (.lst [D.int 0, D.int (-1), D.int (w.last + 1), D.int (w.last + 1 + x2)])), some (.da (.lst (st.map pairD))), some (.da (.int hv)), some (.da (.int mv)), some (.da (.tup [.str "moment", .int due])), some (.da (.int at9)), some (.da (.lst (knL kb))), x, none, none, none, none], ⟨F9, _, rfl⟩, ?_, ?_⟩))))
  · rintro i ρ' oa hi ⟨Fa, x, rfl⟩
    refine g_name (s_if (t_not (t_B (e_callA (a_cons (e_callA (a_cons (e_var rfl (a_cons (e_var rfl (a_cons (e_var rfl (a_nil ⟨w, i, kb, mv, rfl, ok, hbl, hbk, fun ob fb => ?_⟩)))))))))))))
    refine a_cons (e_tup (a_cons (e_str (a_cons (e_var rfl (a_nil (exd2 ?_)))))))
    exact a_nil ⟨_, _, _, rfl, .inl rfl, .inl rfl, mtm, _, rfl, ite_ff (s_next ⟨Fa.ofFp fb, _, rfl⟩)⟩
  rintro ρ' oa ⟨Fa, x, rfl⟩
  have mtn : ∀ l : List Str, l.length ≤ 1000000 → Mt 4 (.tup [.str "names", .lst (txs l)]) := fun l hl => mt_told _ _ 2 (mt_txs l hl 1)
  refine s_seq (s_if (t_not (t_B (e_callA (a_cons (e_callA (a_cons (e_var rfl (a_cons (e_int (a_cons (e_var rfl (a_cons (e_str (a_nil ⟨w, 0, strange, "", rfl, ok, .inl ⟨rfl, sn⟩, fun ob fb => ?_⟩)))))))))))))))
  refine a_cons (e_tup (a_cons (e_str (a_cons (e_lst (a_cons (e_var rfl (a_nil (exd1 ?_)))))))))
  refine a_nil (exd2 (a_nil ⟨_, _, .tup [.str "names", .lst (txs [strange])], rfl, .inl rfl, .inl rfl, mtn [strange] (by simp), _, rfl, ite_ff (s_next ?_)⟩))
  have Fb := Fa.ofFp fb
  refine s_seq (s_forT (e_tup (a_cons (e_tup (a_cons (e_var rfl (a_cons (e_op (e_var rfl (e_int (o_ix k1 (a_nil (exd2 ?_)))))))))))))
  refine a_cons (e_tup (a_cons (e_op (e_var rfl (e_int (o_ix k0 (a_cons (e_var rfl (a_nil (exd2 ?_))))))))))
  refine a_cons (e_tup (a_cons (e_var rfl (a_cons (e_var rfl (a_nil (exd2 (a_nil (exd3 ?_)))))))))
  refine ⟨_, rfl, fun i ρ' o' => Fj j o o' ∧ ∃ y z, ρ' = [some (.ow j), some (.da (planD K w)), some (.da (worldD w)), some (.da (.lst (txs (w.ds.map DR.n)))), some (.da (.str strange)), some (.da (.lst [D.int 1, D.int 0, D.int (w.hc + 1), D.int (-1 - x1)])), some (.da (.lst [D.int 0, D.int (-1), D.int (w.last + 1), D.int (w.last + 1 + x2)])), some (.da (.lst (st.map pairD))), some (.da (.int hv)), some (.da (.int mv)), some (.da (.tup [.str "moment", .int due])), some (.da (.int at9)), some (.da (.lst (knL kb))), x, y, z, none, none], ⟨Fb, _, _, rfl⟩, ?_, ?_⟩
  · rintro i d ρ' oc hd ⟨Fc, y, z, rfl⟩
    have hab : ∃ a b, d = .tup [.str a, .str b] ∧ ¬(a ∈ w.ds.map DR.n ∧ b ∈ w.ds.map DR.n) := by
      have hm := List.mem_of_getElem? hd
      rcases List.mem_cons.mp hm with e | e
      · exact ⟨_, _, e, fun q => sn q.1⟩
      · rcases List.mem_cons.mp e with e | e
        · exact ⟨_, _, e, fun q => sn q.2⟩
        · exact ⟨_, _, List.mem_singleton.mp e, fun q => sn q.1⟩
    obtain ⟨a, b, rfl, hnot⟩ := hab
    refine g_u2 (g_cons (g_name (g_cons (g_name (g_nil ?_)))))
    refine s_if (t_not (t_B (e_callA (a_cons (e_callA (a_cons (e_var rfl (a_cons (e_int (a_cons (e_var rfl (a_cons (e_var rfl (a_nil ⟨w, 1, a, b, rfl, ok, .inr ⟨rfl, hnot⟩, fun od fd => ?_⟩))))))))))))))
    refine a_cons (e_tup (a_cons (e_str (a_cons (e_lst (a_cons (e_var rfl (a_cons (e_var rfl (a_nil (exd2 ?_)))))))))))
    exact a_nil (exd2 (a_nil ⟨_, _, .tup [.str "names", .lst (txs [a, b])], rfl, .inl rfl, .inl rfl, mtn [a, b] (by simp), _, rfl, ite_ff (s_next ⟨Fc.ofFp fd, _, _, rfl⟩)⟩))
  rintro ρ' oc ⟨Fc, y, z, rfl⟩
  exact s_ret (e_bl (h oc Fc))
end
end K07
end AB

set_option Elab.async false
set_option linter.all false
set_option maxRecDepth 100000
set_option maxHeartbeats 4000000
set_option autoImplicit false
namespace AB
open PySem L2 PySem.Spec PyProof.Rows He
namespace K07
local macro_rules | `(tactic| walk_at "e") => `(tactic| repeat' (first
  | (with_reducible refine s_seq ?_) | (with_reducible refine s_if ?_) | (with_reducible refine s_drop ?_) | (with_reducible refine s_ret ?_) | (with_reducible refine s_next ?_) | (with_reducible refine s_asg ?_)
  | (with_reducible refine g_name ?_)
  | (with_reducible refine t_test ?_) | (with_reducible refine t_B ?_) | (with_reducible refine t_or ?_) | (with_reducible refine t_and ?_) | (with_reducible refine t_not ?_)
  | ((with_reducible apply e_var); rfl) | (with_reducible refine e_int ?_) | (with_reducible refine e_str ?_) | (with_reducible refine e_bl ?_) | (with_reducible refine e_non ?_)
  | (with_reducible refine e_raw ?_) | (with_reducible refine ite_tt ?_) | (with_reducible refine ite_ff ?_) | (with_reducible refine ite_ntt ?_) | (with_reducible refine ite_nff ?_) | (with_reducible refine n_isiS ?_) | (with_reducible refine n_isiL ?_) | (with_reducible refine n_isiT ?_)
  | ((with_reducible apply e_ixc); (focus rfl); (focus rfl)) | ((with_reducible apply e_ixcT); (focus rfl); (focus rfl))
  | (with_reducible refine e_op ?_) | (with_reducible refine e_un ?_) | (with_reducible refine e_cb ?_) | (with_reducible refine e_callA ?_) | (with_reducible refine e_andV ?_) | (with_reducible refine e_if ?_)
  | (with_reducible refine a_cons ?_) | (with_reducible refine a_nil ?_)
  | (with_reducible refine o_gt ?_) | (with_reducible refine o_lt ?_) | (with_reducible refine o_le ?_) | (with_reducible refine o_ge ?_) | (with_reducible refine o_add ?_) | (with_reducible refine o_sub ?_) | (with_reducible refine o_neg ?_)
  | (with_reducible refine e_tup ?_) | (with_reducible refine e_lst ?_) | (with_reducible refine exd0 ?_) | (with_reducible refine exd1 ?_) | (with_reducible refine exd2 ?_) | (with_reducible refine exd3 ?_) | (with_reducible refine exd4 ?_) | (with_reducible refine exd5 ?_) | (with_reducible refine exd6 ?_)
  | (with_reducible refine o_isNotI ?_) | (with_reducible refine o_isNotN ?_) | (with_reducible refine o_isNotS ?_) | (with_reducible refine o_isI ?_) | (with_reducible refine o_isN ?_) | (with_reducible refine o_isS ?_) | (with_reducible refine o_isT ?_)
  | (with_reducible refine t_yes ?_) | (with_reducible refine gw_name (by decide) ?_)
  | (with_reducible refine s_par ?_) | (with_reducible refine ex2 ?_) | (with_reducible refine o_eqI ?_) | (with_reducible refine o_neI ?_) | (with_reducible refine o_ixL (by assumption) (by assumption) ?_)
  | (with_reducible refine e_sl ?_) | (with_reducible refine l_none ?_) | (with_reducible refine l_some ?_)
  | (with_reducible refine n_list (by assumption) ?_)
  | (with_reducible refine s_par3 ?_) | (with_reducible refine o_isB ?_)
  | (with_reducible refine g_u2 ?_) | (with_reducible refine g_u3 ?_) | (with_reducible refine g_u4 ?_) | (with_reducible refine g_u5 ?_) | (with_reducible refine g_u6 ?_) | (with_reducible refine g_cons ?_) | (with_reducible refine g_nil ?_) | (with_reducible refine gw_u2 ?_) | (with_reducible refine gw_u3 ?_) | (with_reducible refine gw_u4 ?_) | (with_reducible refine gw_u5 ?_) | (with_reducible refine gw_u6 ?_) | (with_reducible refine gw_cons ?_) | (with_reducible refine gw_nil ?_)
  | (with_reducible refine e_chain ?_) | (with_reducible refine e_chain3 ?_) | (with_reducible refine e_orV ?_) | (with_reducible refine e_notV ?_)
  | (with_reducible refine ite_dec (fun h => absurd h (by decide)) (fun _ => ?_)) | (with_reducible refine ite_dec (fun _ => ?_) (fun h => absurd (by decide) h))
  | (with_reducible refine ite_dec (fun _ => ?_) (fun h => absurd (by omega) h)) | (with_reducible refine ite_dec (fun h => absurd h (by omega)) (fun _ => ?_))
  | (with_reducible refine ite_ndec (fun _ => ?_) (fun h => absurd h (by omega))) | (with_reducible refine ite_ndec (fun h => absurd (by omega) h) (fun _ => ?_))
  | (with_reducible refine Exists.intro _ (And.intro rfl ?_))))
local macro_rules | `(tactic| walk_at "st") => `(tactic| simp only [List.map_cons, List.map_nil, List.length_cons, List.length_nil, Nat.reduceAdd, Nat.reduceSub, List.replicate, List.cons_append, List.nil_append])
variable {K : PySem.W.Frag} {B : Base} {W : WX} {ss : List Sl} {o : O} {Rt : Sl → O → Prop} {Xt : Addr → List (Str × D) → O → Prop}
section
variable {mg : Str → Option Value} (T : Tx K mg)
include T
/-! ### the great plan -/
omit T in
theorem mem_rep24 {st : List (Int × Int)} (hl : st.length ≤ 24) (p : Int × Int) : p ∈ st ↔ p ∈ ((List.replicate 24 st).flatten).take 24 := by
  constructor
  · intro h
    have e : (List.replicate 24 st).flatten = st ++ (List.replicate 23 st).flatten := by
      rw [List.replicate_succ, List.flatten_cons]
    rw [e, List.take_append, List.take_of_length_le hl]
    exact List.mem_append_left _ h
  · intro h
    have h2 := List.mem_of_mem_take h
    obtain ⟨l, hl, hp⟩ := List.mem_flatten.mp h2
    rw [List.eq_of_mem_replicate hl] at hp
    exact hp
omit T in
theorem flat_rep {α : Type} (n : Nat) (l : List α) : (List.replicate n l).flatten.length = n * l.length := by
  induction n with
  | zero => simp
  | succ n ih =>
    rw [List.replicate_succ, List.flatten_cons, List.length_append, ih, Nat.succ_mul]
    omega
omit T in
theorem flat_map {α β : Type} (f : α → β) (n : Nat) (l : List α) : (List.replicate n (l.map f)).flatten = ((List.replicate n l).flatten).map f := by
  rw [List.map_flatten, List.map_replicate]
omit T in
theorem many_told {w : Wo} {st : List (Int × Int)} (h : 24 < st.length) : spTold w st = .tup [.str "many", .str "starts"] := if_pos h
omit T in
theorem pair_get {ds : List D} {st : List (Int × Int)} : True := trivial
theorem w__law_great_right (hB : B.θ.length = o.length) (c : c__law_great_right K ss o Rt Xt) : Wf (r__law_great_right K W) 9 B ss o Rt := by
  obtain ⟨j, rfl, pu, h⟩ := c
  have jl := pu.lt
  unfold Wf r__law_great_right
  walk_at "st"
  refine s_seq (s_asg (e_callA (a_cons (e_var rfl (a_cons (e_int (a_nil ⟨j, 1, rfl, pu, by decide, by decide, fun ms o1 mw mn ml f1 => g_name ?_⟩)))))))
  obtain ⟨m0, hms⟩ : ∃ m0, ms = [m0] := by
    match ms, ml with
    | [a], _ => exact ⟨a, rfl⟩
  subst hms
  refine s_seq (s_asg (e_callA (a_cons (e_var rfl (a_cons (e_int (a_cons (e_int (a_cons (e_var rfl (a_cons (e_op (e_int (e_callA (a_cons (e_var rfl (a_cons (e_int (a_nil (draw_in (by decide) (by decide) f1.pu fun x2 o2 x20 x21 f2 => o_add ?_))))))))))))))))))))
  refine a_nil ⟨j, 8, 24, [m0], 10 + x2, rfl, f2.pu, by decide, by decide, by decide, by decide, mn, by simp, by omega, by omega, fun ls o3 lok ll f3 => g_name ?_⟩
  have F3 := (f1.trans f2).trans f3
  have hW : isW ("a" : Str) = true := by decide +kernel
  have ok : Wo.ok ⟨8, 24, [m0], [[], [m0]], [⟨"a", 1, 0, 0, 1⟩], [], [], ls⟩ := world_ok (by decide) (by decide) (by decide) (by decide) (by simp) mw mn (List.mem_singleton_self _) (by simp) (fun r hr => by
    rw [List.mem_singleton.mp hr]
    exact ⟨hW, by decide, by decide, by decide, by decide, rfl, rfl⟩) (by simp) (by omega) lok (by simp) (fun r hr => by cases hr) (fun r hr => by cases hr)
  obtain ⟨w, hw⟩ : ∃ w : Wo, w = ⟨8, 24, [m0], [[], [m0]], [⟨"a", 1, 0, 0, 1⟩], [], [], ls⟩ := ⟨_, rfl⟩
  rw [← hw] at ok
  have whc : w.hc = 8 := by rw [hw]
  have wlast : w.last = 24 := by rw [hw]
  have l3 := F3.len
  have wd : worldD w = .lst [.int 8, .int 24, .lst (txs [m0]), .lst [.lst [], .lst (txs [m0])], .lst [.tup [.str "a", .int 1, .int 0, .int 0, .int 1]], .lst [], .lst [], .lst (ls.map LR.d)] := by rw [hw]; rfl
  refine s_seq (s_asg (e_lst (a_cons (e_int (a_cons (e_int (a_cons (e_var rfl (a_cons (e_lst ?_))))))))))
  refine a_cons (e_lst (a_nil (exd0 (a_cons (e_var rfl (a_nil (exd2 ?_)))))))
  refine a_cons (e_lst (a_cons (e_tup (a_cons (e_str (a_cons (e_int (a_cons (e_int (a_cons (e_int (a_cons (e_int (a_nil (exd5 ?_)))))))))))))))
  refine a_nil (exd1 ?_)
  refine a_cons (e_lst (a_nil (exd0 (a_cons (e_lst (a_nil (exd0 (a_cons (e_var rfl (a_nil (exd8 (g_name ?_))))))))))))
  rw [← wd]
  refine s_seq (s_asg (e_callA (a_cons (e_var rfl (a_nil ⟨w, rfl, ok, fun o4 f4 => g_name ?_⟩)))))
  have F4 := F3.ofFp f4
  refine s_seq (s_asg (e_pairs (j := j) (ok := fun p => 1 ≤ p.1 ∧ p.1 ≤ 8 ∧ 0 ≤ p.2 ∧ p.2 ≤ 24) (a_cons (e_op (e_int (e_callA (a_cons (e_var rfl (a_cons (e_int (a_nil (draw_in (by decide) (by decide) F4.pu fun x5 o5 x50 x51 f5 => o_add ?_))))))))))))
  refine a_nil ⟨1 + x5, rfl, by omega, by omega, f5.pu, fun i o6 f6 => ?_, fun st o6 hl hok f6 => g_name ?_⟩
  · refine e_tup (a_cons (e_op (e_int (e_callA (a_cons (e_var rfl (a_cons (e_int (a_nil (draw_in (by decide) (by decide) f6.pu fun y o7 y0 y1 f7 => o_add ?_))))))))))
    refine a_cons (e_callA (a_cons (e_var rfl (a_cons (e_int (a_nil (draw_in (by decide) (by decide) f7.pu fun z o8 z0 z1 f8 => ?_)))))))
    exact a_nil (exd2 ⟨(1 + y, z), rfl, ⟨by show 1 ≤ 1 + y; omega, by show 1 + y ≤ 8; omega, z0, by show z ≤ 24; omega⟩, f7.trans f8⟩)
  have F6 := (F4.trans f5).trans f6
  have l6 := F6.len
  have ho : StOk w st := fun p hp => by
    obtain ⟨q1, q2, q3, q4⟩ := hok p hp
    rw [whc, wlast]
    exact ⟨q1, q2, q3, q4⟩
  have sl : st.length ≤ 24 := by omega
  have sl1 : 1 ≤ st.length := by omega
  obtain ⟨S, hS⟩ : ∃ S, S = spreadF w st := ⟨_, rfl⟩
  have lS : S.length = 8 := by rw [hS, len_spread, whc]; rfl
  refine s_seq (s_asg (e_frz (e_callA (a_cons (e_var rfl (a_cons (e_var rfl (a_nil ⟨w, _, st, rfl, ok, pr_map st, fun p hp => ⟨(ho p hp).1, (ho p hp).2.1⟩, fun i7 o7 f7 hi7 hk7 => ?_⟩))))))))
  rw [own_spread ok ho, ← hS] at hk7
  refine ⟨i7, _, _, rfl, by omega, hk7, .lst _, g_name ?_⟩
  have F7 := (F6.ofFp f7).set (i := i7) (u := .gone) jl (by omega)
  generalize o7.set i7 .gone = o8 at F7
  have l8 := F7.len
  refine s_seq (s_asg (e_frz (e_callA (a_cons (e_var rfl (a_cons (e_cb (a_cons (e_var rfl (a_nil (n_list (ds := st.map pairD) rfl (a_nil ⟨w, _, st, rfl, ok, pr_map st, by omega, spOn_ok ho sl fun i9 o9 f9 hi9 hk9 => ?_⟩))))))))))))
  rw [← hS] at hk9
  refine ⟨i9, _, _, rfl, by omega, hk9, .lst _, g_name ?_⟩
  have F9 := (F7.ofFp f9).set (i := i9) (u := .gone) jl (by omega)
  generalize o9.set i9 .gone = oa at F9
  have mts : Mt 4 (knD S) := mt_kn S (by omega) 2
  have kb : kBad w S = none := kBad_none (by rw [hS]; exact spread_rg ok ho)
  have op : openF w S = none := open_none.mpr (by rw [hS]; exact spread_closed ok st)
  refine s_seq (s_if (t_or (t_not (t_B (e_callA (a_cons (e_var rfl (a_cons (e_var rfl (a_nil ⟨_, _, knD S, rfl, .inl rfl, .inl rfl, mts, _, rfl, ite_ff ?_⟩))))))))))
  refine t_test (e_op (e_callA (a_cons (e_var rfl (a_cons (e_var rfl (a_nil ⟨w, S, rfl, ok, by rw [lS, whc]; rfl, ?_⟩)))))))
  unfold knOn
  rw [kb]
  intro ob fb
  rw [op]
  refine e_non (o_isNotN ⟨_, rfl, ite_ff (s_next ?_)⟩)
  have Fb := F9.ofFp fb
  have d1 : ((st.map pairD).map Sl.da).length = st.length := by simp
  have many25 : ∀ (o' : O), Mt 4 (.tup [.str "many", .str "starts"]) := fun _ => mt_told _ _ 2 trivial
  refine s_seq (s_if (t_not (t_B (e_callA (a_cons (e_callA (a_cons (e_var rfl (a_cons (e_sl (e_op (e_var rfl (e_int (o_rep (ds := st.map pairD) rfl (by decide) (by decide) (by rw [List.length_map, sizeLine_eq]; show st.length * 24 ≤ _; omega) ?_))))))))))))))
  refine l_none (l_some (e_int ⟨_, rfl, wl_lst ?_⟩))
  rw [show ((24 : Int).toNat) = 24 from rfl, flat_map, show (24 : Int) = ((24 : Nat) : Int) from rfl, cutD_take _ _ (by rw [List.length_map, flat_rep]; omega), ← List.map_take]
  refine a_nil ⟨w, _, ((List.replicate 24 st).flatten).take 24, rfl, ok, pr_map _, by rw [List.length_take]; omega, fun oc fc => ?_⟩
  have hso : StOk w (((List.replicate 24 st).flatten).take 24) := fun p hp => ho p ((mem_rep24 sl p).mpr hp)
  have st1 : spTold w (((List.replicate 24 st).flatten).take 24) = .tup [.str "told", knD S] := by
    unfold spTold
    rw [if_neg (by rw [List.length_take]; omega), st_bad_iff hso, ← spread_same ok ho (mem_rep24 sl), ← hS]
  rw [st1]
  refine a_cons (e_tup (a_cons (e_str (a_cons (e_var rfl (a_nil (exd2 ?_)))))))
  refine a_nil ⟨_, _, _, rfl, .inl rfl, .inl rfl, mt_told _ _ 2 (mt_kn S (by omega) 1), _, rfl, ite_ff (s_next ?_)⟩
  have Fc := Fb.ofFp fc
  refine s_seq (s_if (t_not (t_B (e_callA (a_cons (e_callA (a_cons (e_var rfl (a_cons (e_sl (e_op (e_var rfl (e_int (o_rep (ds := st.map pairD) rfl (by decide) (by decide) (by rw [List.length_map, sizeLine_eq]; show st.length * 25 ≤ _; omega) ?_))))))))))))))
  refine l_none (l_some (e_int ⟨_, rfl, wl_lst ?_⟩))
  rw [show ((25 : Int).toNat) = 25 from rfl, flat_map, show (25 : Int) = ((25 : Nat) : Int) from rfl, cutD_take _ _ (by rw [List.length_map, flat_rep]; omega), ← List.map_take]
  refine a_nil ⟨w, _, ((List.replicate 25 st).flatten).take 25, rfl, ok, pr_map _, by rw [List.length_take]; omega, fun od fd => ?_⟩
  rw [many_told (by rw [List.length_take, flat_rep]; omega)]
  refine a_cons (e_tup (a_cons (e_str (a_cons (e_str (a_nil (exd2 ?_)))))))
  refine a_nil ⟨_, _, _, rfl, .inl rfl, .inl rfl, mt_told _ _ 2 trivial, _, rfl, ite_ff (s_next ?_)⟩
  have Fd := Fc.ofFp fd
  refine s_ret (e_callA (a_cons (e_callA (a_cons (e_var rfl (a_cons (e_op (e_lst (a_cons (e_tup (a_cons (e_int (a_cons (e_un (e_int (o_neg (a_nil (exd2 ?_))))))))))))))))))
  refine a_nil (exd1 (e_int (o_rep (ds := [pairD (0, -1)]) rfl (by decide) (by decide) (by rw [sizeLine_eq]; simp) ?_)))
  have e25 : (List.replicate (((25 : Nat) : Int)).toNat [pairD (0, -1)]).flatten = (List.replicate 25 ((0, -1) : Int × Int)).map pairD := by
    rw [List.flatten_replicate_singleton, List.map_replicate]
    rfl
  rw [e25]
  refine a_nil ⟨w, _, List.replicate 25 (0, -1), rfl, ok, pr_map _, by simp, fun oe fe => ?_⟩
  rw [many_told (by simp)]
  refine a_cons (e_tup (a_cons (e_str (a_cons (e_str (a_nil (exd2 ?_)))))))
  exact a_nil ⟨_, _, _, rfl, .inl rfl, .inl rfl, mt_told _ _ 2 trivial, h oe (Fd.ofFp fe)⟩
end
end K07
end AB

set_option Elab.async false
set_option linter.all false
set_option maxRecDepth 100000
set_option maxHeartbeats 4000000
set_option autoImplicit false
namespace AB
open PySem L2 PySem.Spec PyProof.Rows He
namespace K07
local macro_rules | `(tactic| walk_at "e") => `(tactic| repeat' (first
  | (with_reducible refine s_seq ?_) | (with_reducible refine s_if ?_) | (with_reducible refine s_drop ?_) | (with_reducible refine s_ret ?_) | (with_reducible refine s_next ?_) | (with_reducible refine s_asg ?_)
  | (with_reducible refine g_name ?_)
  | (with_reducible refine t_test ?_) | (with_reducible refine t_B ?_) | (with_reducible refine t_or ?_) | (with_reducible refine t_and ?_) | (with_reducible refine t_not ?_)
  | ((with_reducible apply e_var); rfl) | (with_reducible refine e_int ?_) | (with_reducible refine e_str ?_) | (with_reducible refine e_bl ?_) | (with_reducible refine e_non ?_)
  | (with_reducible refine e_raw ?_) | (with_reducible refine ite_tt ?_) | (with_reducible refine ite_ff ?_) | (with_reducible refine ite_ntt ?_) | (with_reducible refine ite_nff ?_) | (with_reducible refine n_isiS ?_) | (with_reducible refine n_isiL ?_) | (with_reducible refine n_isiT ?_)
  | ((with_reducible apply e_ixc); (focus rfl); (focus rfl)) | ((with_reducible apply e_ixcT); (focus rfl); (focus rfl))
  | (with_reducible refine e_op ?_) | (with_reducible refine e_un ?_) | (with_reducible refine e_cb ?_) | (with_reducible refine e_callA ?_) | (with_reducible refine e_andV ?_) | (with_reducible refine e_if ?_)
  | (with_reducible refine a_cons ?_) | (with_reducible refine a_nil ?_)
  | (with_reducible refine o_gt ?_) | (with_reducible refine o_lt ?_) | (with_reducible refine o_le ?_) | (with_reducible refine o_ge ?_) | (with_reducible refine o_add ?_) | (with_reducible refine o_sub ?_) | (with_reducible refine o_neg ?_)
  | (with_reducible refine e_tup ?_) | (with_reducible refine e_lst ?_) | (with_reducible refine exd0 ?_) | (with_reducible refine exd1 ?_) | (with_reducible refine exd2 ?_) | (with_reducible refine exd3 ?_) | (with_reducible refine exd4 ?_) | (with_reducible refine exd5 ?_) | (with_reducible refine exd6 ?_)
  | (with_reducible refine o_isNotI ?_) | (with_reducible refine o_isNotN ?_) | (with_reducible refine o_isNotS ?_) | (with_reducible refine o_isI ?_) | (with_reducible refine o_isN ?_) | (with_reducible refine o_isS ?_) | (with_reducible refine o_isT ?_)
  | (with_reducible refine t_yes ?_) | (with_reducible refine gw_name (by decide) ?_)
  | (with_reducible refine s_par ?_) | (with_reducible refine ex2 ?_) | (with_reducible refine o_eqI ?_) | (with_reducible refine o_neI ?_) | (with_reducible refine o_ixL (by assumption) (by assumption) ?_)
  | (with_reducible refine e_sl ?_) | (with_reducible refine l_none ?_) | (with_reducible refine l_some ?_)
  | (with_reducible refine n_list (by assumption) ?_)
  | (with_reducible refine s_par3 ?_) | (with_reducible refine o_isB ?_)
  | (with_reducible refine g_u2 ?_) | (with_reducible refine g_u3 ?_) | (with_reducible refine g_u4 ?_) | (with_reducible refine g_u5 ?_) | (with_reducible refine g_u6 ?_) | (with_reducible refine g_cons ?_) | (with_reducible refine g_nil ?_) | (with_reducible refine gw_u2 ?_) | (with_reducible refine gw_u3 ?_) | (with_reducible refine gw_u4 ?_) | (with_reducible refine gw_u5 ?_) | (with_reducible refine gw_u6 ?_) | (with_reducible refine gw_cons ?_) | (with_reducible refine gw_nil ?_)
  | (with_reducible refine e_chain ?_) | (with_reducible refine e_chain3 ?_) | (with_reducible refine e_orV ?_) | (with_reducible refine e_notV ?_)
  | (with_reducible refine ite_dec (fun h => absurd h (by decide)) (fun _ => ?_)) | (with_reducible refine ite_dec (fun _ => ?_) (fun h => absurd (by decide) h))
  | (with_reducible refine ite_dec (fun _ => ?_) (fun h => absurd (by omega) h)) | (with_reducible refine ite_dec (fun h => absurd h (by omega)) (fun _ => ?_))
  | (with_reducible refine ite_ndec (fun _ => ?_) (fun h => absurd h (by omega))) | (with_reducible refine ite_ndec (fun h => absurd (by omega) h) (fun _ => ?_))
  | (with_reducible refine Exists.intro _ (And.intro rfl ?_))))
local macro_rules | `(tactic| walk_at "st") => `(tactic| simp only [List.map_cons, List.map_nil, List.length_cons, List.length_nil, Nat.reduceAdd, Nat.reduceSub, List.replicate, List.cons_append, List.nil_append])
variable {K : PySem.W.Frag} {B : Base} {W : WX} {ss : List Sl} {o : O} {Rt : Sl → O → Prop} {Xt : Addr → List (Str × D) → O → Prop}
def spLaw (K : PySem.W.Frag) : Sp := fun vs H Q _ => ∃ (a : Addr) (ns : List Int), vs = [.ref a] ∧ ns.length ≤ 1000 ∧ SqL K H a (ns.map V.int) ∧ ∀ H', Q (.bl true) H'
def lawT (K : PySem.W.Frag) (W : WX) : TS :=
  (tSeq (tAsg (tCallS (SpC (c__law_word_world K)) (WE W) (tCons (tVar 1) tNil)) (gName 2))
  (tSeq (tAsg (tCallS (SpC (c__law_plan K)) (WE W) (tCons (tVar 2) tNil)) (gName 3))
  (tSeq (tAsg (tLst tNil) (gName 4))
  (tSeq (tFor (iSq K (tCallS (SpC (c__law_every_list K)) (WE W) (tCons (tVar 2) tNil))) (gName 5) (tSeq (tAsg (tCallS (SpC (c__law_open_letter K)) (WE W) (tCons (tVar 2) (tCons (tVar 5) tNil))) (gName 6))
  (tSeq (tAsg (tCB (rListA K) (tCons (tVar 5) tNil)) (gName 7))
  (tSeq (tIfS (tNot (tB (tCallS (SpC (c__law_matches K)) (WE W) (tCons (tCallS (SpC (c_judge_knowing K)) (WE W) (tCons (tVar 3) (tCons (tVar 7) tNil))) (tCons (tVar 6) tNil))))) (tRet (tC (.bl false))) tNext)
  (tSeq (tIfS (tTest (tOp rIsA (tVar 6) (tC .non))) (tDrop (tBM K "list" rAppend (tVar 4) (tCons (tVar 5) tNil))) tNext)
  (tSeq (tIfS (tOr (tTest (tOp rIsA (tVar 6) (tC .non))) (tTest (tOp (rEqP K) (tCallS (SpC (c__law_draw K)) (WE W) (tCons (tVar 1) (tCons (tC (.int 4)) tNil))) (tC (.int 0))))) (tIfS (tNot (tB (tCallS (SpC (c__law_matches K)) (WE W) (tCons (tCallS (SpC (c_takers_of K)) (WE W) (tCons (tVar 3) (tCons (tCB (rListA K) (tCons (tVar 5) tNil)) tNil))) (tCons (tCallS (SpC (c__law_own_takers K)) (WE W) (tCons (tVar 2) (tCons (tVar 5) tNil))) tNil))))) (tRet (tC (.bl false))) tNext) tNext)
  (tIfS (tTest (tOp (rNeP K) (tVar 7) (tVar 5))) (tRet (tC (.bl false))) tNext)))))))
  (tSeq (tFor (iRng1 (tCons (tC (.int 4)) tNil)) (gName 8) (tSeq (tAsg (tLc (iRng1 (tCons (tVar 8) tNil)) (gName 11) tYes (tTup (tCons (tOp rAddA (tC (.int 1)) (tCallS (SpC (c__law_draw K)) (WE W0) (tCons (tVar 1) (tCons (tOp (rIxA K) (tVar 2) (tC (.int 0))) tNil)))) (tCons (tCallS (SpC (c__law_draw K)) (WE W0) (tCons (tVar 1) (tCons (tOp rAddA (tOp (rIxA K) (tVar 2) (tC (.int 1))) (tC (.int 1))) tNil))) tNil))) [11]) (gName 9))
  (tSeq (tAsg (tIf (tTest (tOp (rEqP K) (tVar 8) (tC (.int 2)))) (tLc (iSq K (tVar 9)) (gName 12) tYes (tLst (tCons (tOp (rIxA K) (tVar 12) (tC (.int 0))) (tCons (tOp (rIxA K) (tVar 12) (tC (.int 1))) tNil))) [12]) (tCB (rListA K) (tCons (tVar 9) tNil))) (gName 7))
  (tSeq (tAsg (tCallS (SpC (c_spread_of K)) (WE W) (tCons (tVar 3) (tCons (tVar 7) tNil))) (gName 10))
  (tIfS (tOr (tNot (tB (tCallS (SpC (c__law_matches K)) (WE W) (tCons (tVar 10) (tCons (tCallS (SpC (c__law_least_closed K)) (WE W) (tCons (tVar 2) (tCons (tVar 4) (tCons (tVar 9) tNil)))) tNil))))) (tTest (tOp (rNeP K) (tCB (rLenA K) (tCons (tVar 7) tNil)) (tVar 8)))) (tRet (tC (.bl false))) tNext)))))
  (tSeq (tIfS (tOr (tNot (tB (tCallS (SpC (c__law_decisions_right K)) (WE W) (tCons (tVar 3) (tCons (tVar 2) (tCons (tVar 4) tNil)))))) (tNot (tB (tCallS (SpC (c__law_errors_right K)) (WE W) (tCons (tVar 1) (tCons (tVar 3) (tCons (tVar 2) tNil))))))) (tRet (tC (.bl false))) tNext)
  (tRet (tCallS (SpC (c__law_great_right K)) (WE W) (tCons (tVar 1) tNil)))))))))
section
variable {mg : Str → Option Value} (T : Tx K mg)
include T
theorem w_lawT {j : Nat} (hB : B.θ.length ≤ o.length) (pu : Pu o j) : WS B (lawT K W) { nx := fun _ _ => False, rt := fun s _ => s = .da (.bl true) } [none, some (.ow j), none, none, none, none, none, none, none, none, none, none, none] o := by
  have jl := pu.lt
  unfold lawT
  refine s_seq (s_asg (e_callA (a_cons (e_var rfl (a_nil ⟨j, rfl, pu, fun w o1 sm f1 => g_name ?_⟩)))))
  have ok := sm.ok
  have b1 := ok.h1
  have b8 := ok.h8
  have t0 := ok.t0
  have t1 := ok.t1
  have a5 := ok.nd
  refine s_seq (s_asg (e_callA (a_cons (e_var rfl (a_nil ⟨w, rfl, ok, fun o2 f2 => g_name ?_⟩)))))
  have F2 := f1.ofFp f2
  have l2 := F2.len
  refine s_seq (s_asg (e_lstO (a_nil ⟨Nat.zero_le _, g_name ?_⟩)))
  have F3 := F2.add [.lst []]
  refine s_seq (s_for (e_callA (a_cons (e_var rfl (a_nil ⟨w, rfl, sm, fun L o3 hL f3 => ?_⟩)))))
  have F3' := F3.ofFp f3
  have hc3 : o3[o2.length]? = some (.lst (([] : List D).map Sl.da)) := f3.get get_new
  have Lf := hL.few
  refine ⟨_, rfl, fun i ρ' o' => Fj j o o' ∧ o'[o2.length]? = some (.lst ((((L.take i).filter fun k => decide (openF w k = none)).map knD).map Sl.da)) ∧ ∃ a b c, ρ' = [none, some (.ow j), some (.da (worldD w)), some (.da (planD K w)), some (.ow o2.length), a, b, c, none, none, none, none, none], ⟨F3', hc3, _, _, _, rfl⟩, ?_, ?_⟩
  · rintro i d ρ' o4 hd ⟨F4, hc4, a, b, c, rfl⟩
    obtain ⟨k, hk, hkm, rfl, hi⟩ := map_get hd
    have lk := hL.len k hkm
    have rk := hL.rg k hkm
    have kb : kBad w k = none := kBad_none rk
    have l4 := F4.len
    have hf : ((L.take (i + 1)).filter fun k => decide (openF w k = none)).map knD = ((L.take i).filter fun k => decide (openF w k = none)).map knD ++ (if openF w k = none then [knD k] else []) := by
      rw [List.take_add_one, hk, List.filter_append, List.map_append]
      show _ ++ ((List.filter _ [k]).map knD) = _
      rw [List.filter_cons, List.filter_nil]
      by_cases q : openF w k = none
      · rw [if_pos (decide_eq_true q), if_pos q]; rfl
      · rw [if_neg (by rw [decide_eq_false q]; decide), if_neg q]; rfl
    have mtk : Mt 4 (optN (openF w k)) := by cases openF w k <;> trivial
    have hraw : ∀ v, Sl.da (optN (openF w k)) ≠ .da (.raw v) := fun v z => by cases q : openF w k <;> (rw [q] at z; cases z)
    have hisN : isN (.da (optN (openF w k))) = decide (openF w k = none) := by cases openF w k <;> rfl
    refine g_name (s_seq (s_asg (e_callA (a_cons (e_var rfl (a_cons (e_var rfl (a_nil ⟨w, k, rfl, ok, lk, g_name ?_⟩))))))))
    refine s_seq (s_asg (e_cb (a_cons (e_var rfl (a_nil (n_list (ds := knL k) rfl (g_name ?_)))))))
    refine s_seq (s_if (t_not (t_B (e_callA (a_cons (e_callA (a_cons (e_var rfl (a_cons (e_var rfl (a_nil ⟨w, k, rfl, ok, lk, ?_⟩)))))))))))
    unfold knOn
    rw [kb]
    intro o5 f5
    refine a_cons (e_var rfl (a_nil ⟨_, _, optN (openF w k), rfl, .inl rfl, .inl rfl, mtk, _, rfl, ite_ff (s_next ?_)⟩))
    have F5 := F4.ofFp f5
    have hc5 := f5.get hc4
    -- what stands behind the append
    have last : ∀ o6, Fj j o o6 → o6[o2.length]? = some (.lst ((((L.take (i + 1)).filter fun k => decide (openF w k = none)).map knD).map Sl.da)) →
        WS B (tSeq (tIfS (tOr (tTest (tOp rIsA (tVar 6) (tC .non))) (tTest (tOp (rEqP K) (tCallS (SpC (c__law_draw K)) (WE W) (tCons (tVar 1) (tCons (tC (.int 4)) tNil))) (tC (.int 0))))) (tIfS (tNot (tB (tCallS (SpC (c__law_matches K)) (WE W) (tCons (tCallS (SpC (c_takers_of K)) (WE W) (tCons (tVar 3) (tCons (tCB (rListA K) (tCons (tVar 5) tNil)) tNil))) (tCons (tCallS (SpC (c__law_own_takers K)) (WE W) (tCons (tVar 2) (tCons (tVar 5) tNil))) tNil))))) (tRet (tC (.bl false))) tNext) tNext)
          (tIfS (tTest (tOp (rNeP K) (tVar 7) (tVar 5))) (tRet (tC (.bl false))) tNext))
          { nx := fun ρ' o' => Fj j o o' ∧ o'[o2.length]? = some (.lst ((((L.take (i + 1)).filter fun k => decide (openF w k = none)).map knD).map Sl.da)) ∧ ∃ a b c, ρ' = [none, some (.ow j), some (.da (worldD w)), some (.da (planD K w)), some (.ow o2.length), a, b, c, none, none, none, none, none], rt := fun s _ => s = .da (.bl true) }
          [none, some (.ow j), some (.da (worldD w)), some (.da (planD K w)), some (.ow o2.length), some (.da (knD k)), some (.da (optN (openF w k))), some (.da (knD k)), none, none, none, none, none] o6 := by
      intro o6 F6 hc6
      have plk : (D.py (knD k)).plain = true := by
        show (D.py (.lst (knL k))).plain = true
        rw [D.py, PyData.plain]
        have : ∀ l : Kn, PyData.plainAll (D.pyL (knL l)) = true := by
          intro l
          induction l with
          | nil => rfl
          | cons x r ih =>
            show PyData.plainAll (D.py (optD x) :: D.pyL (knL r)) = true
            rw [PyData.plainAll, ih]
            cases x <;> rfl
        exact this k
      have dpk : (D.py (knD k)).depth ≤ 60 := by
        show (D.py (.lst (knL k))).depth ≤ 60
        rw [D.py, PyData.depth]
        have : ∀ l : Kn, PyData.depthAll (D.pyL (knL l)) = 0 := by
          intro l
          induction l with
          | nil => simp [knL, D.pyL, PyData.depthAll]
          | cons x r ih =>
            show PyData.depthAll (D.py (optD x) :: D.pyL (knL r)) = 0
            rw [PyData.depthAll, ih]
            cases x <;> simp [optD, D.py, PyData.depth]
        rw [this k]
        decide
      have fin : ∀ o7, Fj j o o7 → o7[o2.length]? = some (.lst ((((L.take (i + 1)).filter fun k => decide (openF w k = none)).map knD).map Sl.da)) → WS B (tIfS (tTest (tOp (rNeP K) (tVar 7) (tVar 5))) (tRet (tC (.bl false))) tNext)
          { nx := fun ρ' o' => Fj j o o' ∧ o'[o2.length]? = some (.lst ((((L.take (i + 1)).filter fun k => decide (openF w k = none)).map knD).map Sl.da)) ∧ ∃ a b c, ρ' = [none, some (.ow j), some (.da (worldD w)), some (.da (planD K w)), some (.ow o2.length), a, b, c, none, none, none, none, none], rt := fun s _ => s = .da (.bl true) }
          [none, some (.ow j), some (.da (worldD w)), some (.da (planD K w)), some (.ow o2.length), some (.da (knD k)), some (.da (optN (openF w k))), some (.da (knD k)), none, none, none, none, none] o7 := by
        intro o7 F7 hc7
        refine s_if (t_test (e_op (e_var rfl (e_var rfl (o_ne plk plk (Nat.le_trans (Nat.min_le_left _ _) dpk) ?_)))))
        rw [eqv_refl _ plk]
        exact ⟨_, rfl, ite_ff (s_next ⟨F7, hc7, _, _, _, rfl⟩)⟩
      have tk : ∀ o7, Fj j o o7 → o7[o2.length]? = some (.lst ((((L.take (i + 1)).filter fun k => decide (openF w k = none)).map knD).map Sl.da)) → WS B (tIfS (tNot (tB (tCallS (SpC (c__law_matches K)) (WE W) (tCons (tCallS (SpC (c_takers_of K)) (WE W) (tCons (tVar 3) (tCons (tCB (rListA K) (tCons (tVar 5) tNil)) tNil))) (tCons (tCallS (SpC (c__law_own_takers K)) (WE W) (tCons (tVar 2) (tCons (tVar 5) tNil))) tNil))))) (tRet (tC (.bl false))) tNext)
          { nx := fun ρ' o' => WS B (tIfS (tTest (tOp (rNeP K) (tVar 7) (tVar 5))) (tRet (tC (.bl false))) tNext) { nx := fun ρ' o' => Fj j o o' ∧ o'[o2.length]? = some (.lst ((((L.take (i + 1)).filter fun k => decide (openF w k = none)).map knD).map Sl.da)) ∧ ∃ a b c, ρ' = [none, some (.ow j), some (.da (worldD w)), some (.da (planD K w)), some (.ow o2.length), a, b, c, none, none, none, none, none], rt := fun s _ => s = .da (.bl true) } ρ' o', rt := fun s _ => s = .da (.bl true) }
          [none, some (.ow j), some (.da (worldD w)), some (.da (planD K w)), some (.ow o2.length), some (.da (knD k)), some (.da (optN (openF w k))), some (.da (knD k)), none, none, none, none, none] o7 := by
        intro o7 F7 hc7
        refine s_if (t_not (t_B (e_callA (a_cons (e_callA (a_cons (e_var rfl (a_cons (e_cb (a_cons (e_var rfl (a_nil (n_list (ds := knL k) rfl (a_nil ⟨w, k, rfl, ok, lk, ?_⟩))))))))))))))
        unfold knOn
        rw [kb]
        intro i8 o8 f8 hi8 hk8
        refine a_cons (e_callA (a_cons (e_var rfl (a_cons (e_var rfl (a_nil ⟨w, k, rfl, ok, lk, fun i9 o9 f9 hi9 hk9 => ?_⟩))))))
        have tl := takers_len (w := w) (k := k)
        exact a_nil ⟨.ow i8, .ow i9, .lst (txs (takersF w k)), rfl, MV.own (f9.get hk8), MV.own hk9, mt_txs _ (by omega) 2, _, rfl, ite_ff (s_next (fin o9 ((F7.ofFp f8).ofFp f9) (f9.get (f8.get hc7))))⟩
      refine s_seq (s_if (t_or (t_test (e_op (e_var rfl (e_non (o_is hraw ?_)))))))
      rw [hisN]
      refine ⟨_, rfl, ite_dec (fun q => ite_tt ((tk o6 F6 hc6).mono (fun _ _ q => q) (fun _ _ q => q) (fun _ _ q => False.elim q) (fun _ _ q => False.elim q))) fun q => ?_⟩
      refine t_test (e_op (e_callA (a_cons (e_var rfl (a_cons (e_int (a_nil (draw_in (by decide) (by decide) F6.pu fun r o7 r0 r1 f7 => e_int (o_eqI ⟨_, rfl, ?_⟩)))))))))
      have hc7 := f7.at hc6 (by omega)
      refine ite_dec (fun q => ?_) fun q => ?_
      · exact (tk o7 (F6.trans f7) hc7).mono (fun _ _ q => q) (fun _ _ q => q) (fun _ _ q => False.elim q) (fun _ _ q => False.elim q)
      · exact s_next (fin o7 (F6.trans f7) hc7)
    refine s_seq (s_if (t_test (e_op (e_var rfl (e_non (o_is hraw ?_))))))
    rw [hisN]
    refine ⟨_, rfl, ite_dec (fun q => ?_) fun q => ?_⟩
    · rw [if_pos q] at hf
      refine s_drop (e_app (acc := ((L.take i).filter fun k => decide (openF w k = none)).map knD) rfl hc5 ?_ (a_cons (e_var rfl (a_nil ⟨knD k, rfl, rfl, ?_⟩))))
      · rw [List.length_map]
        exact Nat.le_trans (List.length_filter_le _ _) (by rw [List.length_take]; omega)
      rw [← hf]
      exact (last _ (F5.set jl (by omega)) (List.getElem?_set_self (List.getElem?_eq_some_iff.mp hc5).1)).mono (fun _ _ q => q) (fun _ _ q => q) (fun _ _ q => False.elim q) (fun _ _ q => False.elim q)
    · rw [if_neg q, List.append_nil] at hf
      refine s_next ((last o5 F5 (by rw [hf]; exact hc5)).mono (fun _ _ q => q) (fun _ _ q => q) (fun _ _ q => False.elim q) (fun _ _ q => False.elim q))
  rintro ρ' o4 ⟨F4, hc4, a, b, c, rfl⟩
  rw [List.length_map, List.take_length] at hc4
  have hC : Clo w (L.filter fun k => decide (openF w k = none)) := ⟨fun k hk => hL.len k (List.mem_filter.mp hk).1, fun k hk => hL.rg k (List.mem_filter.mp hk).1, fun k hk => of_decide_eq_true (List.mem_filter.mp hk).2, fun k h1 h2 h3 => List.mem_filter.mpr ⟨hL.all k h1 h2, decide_eq_true h3⟩⟩
  generalize (L.filter fun k => decide (openF w k = none)) = cl at hc4 hC
  refine s_frz 4 (j := o2.length) rfl (by omega) hc4 (.lst _) ?_
  have F5 := F4.set (i := o2.length) (u := .gone) jl (by omega)
  generalize o4.set o2.length .gone = o5 at F5
  refine s_seq (s_range1 (a_cons (e_int (a_nil ⟨4, rfl, by decide, by decide, fun i ρ' o' => Fj j o o' ∧ ∃ a b c d e f, ρ' = [none, some (.ow j), some (.da (worldD w)), some (.da (planD K w)), some (.da (.lst (cl.map knD))), a, b, c, d, e, f, none, none], ⟨F5, _, _, _, _, _, _, rfl⟩, ?_, ?_⟩))))
  · rintro n ρ' o6 hn ⟨F6, a, b, c, d, e, f, rfl⟩
    have hn4 : n < 4 := hn
    refine g_name (s_seq (s_asg (e_pairs (j := j) (ok := fun p => 1 ≤ p.1 ∧ p.1 ≤ w.hc ∧ 0 ≤ p.2 ∧ p.2 ≤ w.last) (a_cons (e_var rfl (a_nil ⟨n, rfl, by omega, by omega, F6.pu, fun i o7 f7 => ?_, fun st o7 hl hok f7 => g_name ?_⟩))))))
    · refine e_tup (a_cons (e_op (e_int (e_callA (a_cons (e_var rfl (a_cons (e_ixc (ds := w.parts) (d := .int w.hc) rfl rfl (a_nil (draw_in (by omega) (by omega) f7.pu fun y o8 y0 y1 f8 => o_add ?_))))))))))
      refine a_cons (e_callA (a_cons (e_var rfl (a_cons (e_op (e_ixc (ds := w.parts) (d := .int w.last) rfl rfl (e_int (o_add (a_nil (draw_in (by omega) (by omega) f8.pu fun z o9 z0 z1 f9 => ?_))))))))))
      exact a_nil (exd2 ⟨(1 + y, z), rfl, ⟨by show 1 ≤ 1 + y; omega, by show 1 + y ≤ w.hc; omega, z0, by show z ≤ w.last; omega⟩, f8.trans f9⟩)
    have F7 := F6.trans f7
    have ho : StOk w st := fun p hp => hok p hp
    have sl : st.length ≤ 24 := by omega
    have tp := spread_top ok hC ho
    obtain ⟨S, hS⟩ : ∃ S, S = spreadF w st := ⟨_, rfl⟩
    have lS : S.length = w.hc.toNat := by rw [hS]; exact len_spread
    -- behind the handed list
    have rest : ∀ ds : List D, Paired Pr ds st → WS B (tSeq (tAsg (tCallS (SpC (c_spread_of K)) (WE W) (tCons (tVar 3) (tCons (tVar 7) tNil))) (gName 10))
        (tIfS (tOr (tNot (tB (tCallS (SpC (c__law_matches K)) (WE W) (tCons (tVar 10) (tCons (tCallS (SpC (c__law_least_closed K)) (WE W) (tCons (tVar 2) (tCons (tVar 4) (tCons (tVar 9) tNil)))) tNil))))) (tTest (tOp (rNeP K) (tCB (rLenA K) (tCons (tVar 7) tNil)) (tVar 8)))) (tRet (tC (.bl false))) tNext))
        { nx := fun ρ' o' => Fj j o o' ∧ ∃ a b c d e f, ρ' = [none, some (.ow j), some (.da (worldD w)), some (.da (planD K w)), some (.da (.lst (cl.map knD))), a, b, c, d, e, f, none, none], rt := fun s _ => s = .da (.bl true) }
        [none, some (.ow j), some (.da (worldD w)), some (.da (planD K w)), some (.da (.lst (cl.map knD))), a, b, some (.da (.lst ds)), some (.da (.int n)), some (.da (.lst (st.map pairD))), f, none, none] o7 := by
      intro ds hds
      have hdl : ds.length = st.length := Paired.len hds
      refine s_seq (s_asg (e_callA (a_cons (e_var rfl (a_cons (e_var rfl (a_nil ⟨w, ds, st, rfl, ok, hds, by omega, spOn_ok ho sl fun i8 o8 f8 hi8 hk8 => g_name ?_⟩)))))))
      rw [← hS] at hk8
      refine s_if (t_or (t_not (t_B (e_callA (a_cons (e_var rfl (a_cons (e_callA (a_cons (e_var rfl (a_cons (e_var rfl (a_cons (e_var rfl (a_nil ⟨w, cl, _, st, spreadF w st, rfl, ok, pr_map st, fun p hp => ⟨(ho p hp).1, (ho p hp).2.1⟩, tp, fun i9 o9 f9 hi9 hk9 => ?_⟩)))))))))))))))
      rw [← hS] at hk9
      refine a_nil ⟨.ow i8, .ow i9, knD S, rfl, MV.own (f9.get hk8), MV.own hk9, mt_kn S (by omega) 2, _, rfl, ite_ff ?_⟩
      refine t_test (e_op (e_cb (a_cons (e_var rfl (a_nil (n_len (ss := ds.map Sl.da) rfl (e_var rfl (o_neI ⟨_, rfl, ?_⟩))))))))
      have : ((ds.map Sl.da).length : Int) = (n : Int) := by
        rw [List.length_map, hdl, hl]
        omega
      rw [decide_eq_true this]
      exact ite_ff (s_next ⟨(F7.ofFp f8).ofFp f9, _, _, _, _, _, _, rfl⟩)
    refine s_seq (s_asg (e_if (t_test (e_op (e_var rfl (e_int (o_eqI ⟨_, rfl, ?_⟩)))))))
    refine ite_dec (fun q => ?_) fun q => ?_
    · refine lc_map pairD (fun p => .lst [.int p.1, .int p.2]) st (by omega) (e_var rfl ⟨rfl, rfl⟩) (fun p hp => gw_name (by simp) ⟨rfl, e_lst (a_cons (e_ixcT rfl rfl (a_cons (e_ixcT rfl rfl (a_nil (exd2 ⟨rfl, rfl⟩))))))⟩) (g_name ?_)
      exact (rest _ (pr_mapL st)).mono (fun _ _ q => q) (fun _ _ q => q) (fun _ _ q => False.elim q) (fun _ _ q => False.elim q)
    · refine e_cb (a_cons (e_var rfl (a_nil (n_list (ds := st.map pairD) rfl (g_name ?_)))))
      exact (rest _ (pr_map st)).mono (fun _ _ q => q) (fun _ _ q => q) (fun _ _ q => False.elim q) (fun _ _ q => False.elim q)
  rintro ρ' o6 ⟨F6, a, b, c, d, e, f, rfl⟩
  refine s_seq (s_if (t_or (t_not (t_B (e_callA (a_cons (e_var rfl (a_cons (e_var rfl (a_cons (e_var rfl (a_nil ⟨w, cl, rfl, sm, hC, fun o7 f7 => ⟨_, rfl, ite_ff ?_⟩⟩))))))))))))
  have F7 := F6.ofFp f7
  refine t_not (t_B (e_callA (a_cons (e_var rfl (a_cons (e_var rfl (a_cons (e_var rfl (a_nil ⟨j, w, rfl, F7.pu, sm, fun o8 f8 => ⟨_, rfl, ite_ff (s_next ?_)⟩⟩)))))))))
  have F8 := F7.trans f8
  exact s_ret (e_callA (a_cons (e_var rfl (a_nil ⟨j, rfl, F8.pu, fun o9 f9 => rfl⟩))))
end
theorem sp_law {mg : Str → Option Value} (T : Tx K mg) {vs : List V} {H : Hp} {Q : VK} {E : XK} (h : spLaw K vs H Q E) : r_law K W { nx := fun _ H' => Q .non H', rt := Q } (L2.start ["script", "purse", "world", "plan", "closed", "knowing", "due", "handed", "many", "starts", "told", "turn", "one"] vs) H := by
  obtain ⟨a, ns, rfl, hl, hS, q⟩ := h
  refine ⟨_, rfl, a, ns, rfl, hS, hl, fun x y z H' l ex hn => ?_⟩
  have pu : Pu [OO.lst [.da (.int x), .da (.int y), .da (.int z)]] 0 := ⟨x, y, z, rfl⟩
  have w := w_lawT (W := W) (B := ⟨fun _ => none, upd H' l (.lst [.int x, .int y, .int z]), [l]⟩) T (Nat.le_refl _) pu
  refine w (fun _ => none) _ [l] _ ⟨Tr.refl _ _ _, (fun a w z => by cases z), rfl, by simp, (fun j a u _ _ _ => rfl), (fun j c u e1 e2 => ?_), ⟨rfl, fun i s e => ?_⟩⟩ _ ⟨fun F' H' θ' σ ρ o t k p => p.elim, fun F' H' θ' σ ρ o v s t k r p => ?_, fun F' H' θ' σ ρ o t k p => p.elim, fun F' H' θ' σ ρ o t k p => p.elim⟩
  · match j, e1, e2 with
    | 0, e1, e2 =>
      cases e1
      cases e2
      exact ⟨_, upd_same, .cons (RepS.dat (Rep.int _)) (.cons (RepS.dat (Rep.int _)) (.cons (RepS.dat (Rep.int _)) .nil))⟩
    | n + 1, e1, e2 => simp at e1
  · match i, e with
    | 1, e => cases e; exact ⟨_, rfl, l, rfl, rfl⟩
    | 0, e => cases e
    | n + 2, e =>
      exfalso
      revert e
      match n with
      | 0 => intro e; cases e
      | 1 => intro e; cases e
      | 2 => intro e; cases e
      | 3 => intro e; cases e
      | 4 => intro e; cases e
      | 5 => intro e; cases e
      | 6 => intro e; cases e
      | 7 => intro e; cases e
      | 8 => intro e; cases e
      | 9 => intro e; cases e
      | 10 => intro e; cases e
      | n + 11 => intro e; simp at e
  · subst p
    rw [rep_bl r]
    exact q H'
end K07
end AB

set_option Elab.async false
set_option linter.all false
set_option maxRecDepth 100000
set_option maxHeartbeats 4000000
set_option autoImplicit false
namespace AB
open PySem L2 PySem.Spec PyProof.Rows He
namespace K07
section
variable {P : Program} {w : World} {K : PySem.W.Frag} {mg : Str → Option Value} {base : Heap}
theorem d_check_most (T : Tx K mg)  (I_TooMany : InitOk P w K mg base "TooMany" ["what"]) {f : Addr} {cdv : Value} {A : Around} {outer : List Env} {s : Shared} {H : Hp} {E : XK} (hr : Room (2) (A.deeper (envOfC "check_most" (defScope s_check_most) s.heap.objs.size f cdv))) :
    PSs (cxOf (L2.CX P w) P w K mg base ["what", "many", "most"] "check_most" (defScope s_check_most) f cdv A outer s H E) (defBody s_check_most) (r_check_most K (fun cls d _ H => E cls d H)) :=
  have tk0 := takes_of (X := cxOf (L2.CX P w) P w K mg base ["what", "many", "most"] "check_most" (defScope s_check_most) f cdv A outer s H E) (E := E) rfl rfl rfl rfl
  (pss_one (ps_if (pt_cmpR op_gtA (pv 1) (pv 2) (nomark _)) (pss_one (ps_raiseX T.x_TooMany I_TooMany hr tk0 (pa_cons (pv 0) pa_nil))) pss_nil))
theorem d_check_numbers (T : Tx K mg)  (I_TooMany : InitOk P w K mg base "TooMany" ["what"]) {f : Addr} {cdv : Value} {A : Around} {outer : List Env} {s : Shared} {H : Hp} {E : XK} (hr : Room (2) (A.deeper (envOfC "check_numbers" (defScope s_check_numbers) s.heap.objs.size f cdv))) :
    PSs (cxOf (L2.CX P w) P w K mg base ["numbers", "most", "number"] "check_numbers" (defScope s_check_numbers) f cdv A outer s H E) (defBody s_check_numbers) (r_check_numbers K (fun cls d _ H => E cls d H)) :=
  have tk0 := takes_of (X := cxOf (L2.CX P w) P w K mg base ["numbers", "most", "number"] "check_numbers" (defScope s_check_numbers) f cdv A outer s H E) (E := E) rfl rfl rfl rfl
  (pss_one (ps_for (passes_of rfl) rfl (pi_sq (pv 0)) (pg_name (i := 2) sc_check_numbers.nd rfl (.inl rfl)) (pss_one (ps_if (PW.pt (pw_or (pt_cmpR op_gtA (pv 2) (pv 1) (nomark _)) (pw_or1 (pt_cmpR op_ltA (pv 2) (pe_un un_negA (pv 1)) (nomark _))))) (pss_one (ps_raiseX T.x_TooMany I_TooMany hr tk0 (pa_cons pe_str pa_nil))) pss_nil))))
theorem d_check_name (T : Tx K mg)  (I_BadNames : InitOk P w K mg base "BadNames" ["words"]) {f : Addr} {cdv : Value} {A : Around} {outer : List Env} {s : Shared} {H : Hp} {E : XK} (hr : Room (2) (A.deeper (envOfC "check_name" (defScope s_check_name) s.heap.objs.size f cdv))) :
    PSs (cxOf (L2.CX P w) P w K mg base ["plan", "name"] "check_name" (defScope s_check_name) f cdv A outer s H E) (defBody s_check_name) (r_check_name K (fun cls d _ H => E cls d H)) :=
  have tk0 := takes_of (X := cxOf (L2.CX P w) P w K mg base ["plan", "name"] "check_name" (defScope s_check_name) f cdv A outer s H E) (E := E) rfl rfl rfl rfl
  (pss_one (ps_if (pt_cmpR (op_notInA (hr).units) (pv 1) (pe_fld (pv 0) (by rfl)) (by rfl)) (pss_one (ps_raiseX T.x_BadNames I_BadNames hr tk0 (pa_cons (pe_lst (pa_cons (pv 1) pa_nil)) pa_nil))) pss_nil))
theorem d_check_moment (T : Tx K mg)  (I_BadMoment : InitOk P w K mg base "BadMoment" ["moment"]) {f : Addr} {cdv : Value} {A : Around} {outer : List Env} {s : Shared} {H : Hp} {E : XK} (hr : Room (2) (A.deeper (envOfC "check_moment" (defScope s_check_moment) s.heap.objs.size f cdv))) :
    PSs (cxOf (L2.CX P w) P w K mg base ["plan", "moment"] "check_moment" (defScope s_check_moment) f cdv A outer s H E) (defBody s_check_moment) (r_check_moment K (fun cls d _ H => E cls d H)) :=
  have tk0 := takes_of (X := cxOf (L2.CX P w) P w K mg base ["plan", "moment"] "check_moment" (defScope s_check_moment) f cdv A outer s H E) (E := E) rfl rfl rfl rfl
  (pss_one (ps_if (pt_not (pt_chain op_leA op_leA pe_int (pv 1) (pe_fld (pv 0) (by rfl)))) (pss_one (ps_raiseX T.x_BadMoment I_BadMoment hr tk0 (pa_cons (pv 1) pa_nil))) pss_nil))
theorem d_check_helper (T : Tx K mg)  (I_BadMoment : InitOk P w K mg base "BadMoment" ["moment"]) {f : Addr} {cdv : Value} {A : Around} {outer : List Env} {s : Shared} {H : Hp} {E : XK} (hr : Room (2) (A.deeper (envOfC "check_helper" (defScope s_check_helper) s.heap.objs.size f cdv))) :
    PSs (cxOf (L2.CX P w) P w K mg base ["plan", "helper"] "check_helper" (defScope s_check_helper) f cdv A outer s H E) (defBody s_check_helper) (r_check_helper K (fun cls d _ H => E cls d H)) :=
  have tk0 := takes_of (X := cxOf (L2.CX P w) P w K mg base ["plan", "helper"] "check_helper" (defScope s_check_helper) f cdv A outer s H E) (E := E) rfl rfl rfl rfl
  (pss_one (ps_if (pt_not (pt_chain op_leA op_leA pe_int (pv 1) (pe_fld (pv 0) (by rfl)))) (pss_one (ps_raiseX T.x_BadMoment I_BadMoment hr tk0 (pa_cons (pv 1) pa_nil))) pss_nil))
theorem d_spread_of (T : Tx K mg) (C_Plan_carried : CalM P w K mg base 3 "Plan" "carried" ["self", "course"] (c_Plan_carried K)) (C_Plan_helpers : CalM P w K mg base 1 "Plan" "helpers" ["self"] (c_Plan_helpers K)) (C_Plan_last : CalM P w K mg base 1 "Plan" "last" ["self"] (c_Plan_last K)) (C_Plan_letters : CalM P w K mg base 1 "Plan" "letters" ["self"] (c_Plan_letters K)) (C_check_helper : Cal P w K mg base 3 "check_helper" ["plan", "helper"] (c_check_helper K)) (C_check_moment : Cal P w K mg base 3 "check_moment" ["plan", "moment"] (c_check_moment K)) (C_check_most : Cal P w K mg base 3 "check_most" ["what", "many", "most"] (c_check_most K))  {f : Addr} {cdv : Value} {A : Around} {outer : List Env} {s : Shared} {H : Hp} {E : XK} (hr : Room (3) (A.deeper (envOfC "spread_of" (defScope s_spread_of) s.heap.objs.size f cdv))) :
    PSs (cxOf (L2.CX P w) P w K mg base ["plan", "starts", "helper", "moment", "knowing", "letters", "carried", "number", "sender", "sent", "receiver", "arrives"] "spread_of" (defScope s_spread_of) f cdv A outer s H E) (defBody s_spread_of) (r_spread_of K (fun cls d _ H => E cls d H)) :=
  have tk0 := takes_of (X := cxOf (L2.CX P w) P w K mg base ["plan", "starts", "helper", "moment", "knowing", "letters", "carried", "number", "sender", "sent", "receiver", "arrives"] "spread_of" (defScope s_spread_of) f cdv A outer s H E) (E := E) rfl rfl rfl rfl
  (pss_cons (ps_expr (pe_cal C_check_most hr (by decide) (by rfl) tk0 (pa_cons pe_str (pa_cons (pe_callB cr_lenA (by rfl) T.b_len (by decide +kernel) (pa_cons (pv 1) pa_nil)) (pa_cons (pe_gc (by rfl) T.n_STARTS) pa_nil)))))
  (pss_cons (ps_for (passes_of rfl) rfl (pi_sq (pv 1)) (pg_un (by rfl) (pgs_cons (pg_name (i := 2) sc_spread_of.nd rfl (.inl rfl)) (pgs_cons (pg_name (i := 3) sc_spread_of.nd rfl (.inl rfl)) pgs_nil))) (pss_cons (ps_expr (pe_cal C_check_helper hr (by decide) (by rfl) tk0 (pa_cons (pv 0) (pa_cons (pv 2) pa_nil))))
  (pss_one (ps_expr (pe_cal C_check_moment hr (by decide) (by rfl) tk0 (pa_cons (pv 0) (pa_cons (pv 3) pa_nil)))))))
  (pss_cons (ps_setLc (i := 4) (own := [("helper", 2)]) (g := (gName 2)) (tt := tYes) (te := (tC .non)) (by rfl) sc_spread_of.nd rfl rfl (sw_true rfl rfl rfl (by decide +kernel)) (pi_range1 (by rfl) T.b_range (pa_cons (pe_calM0 C_Plan_helpers hr (by decide) tk0 (pv 0)) pa_nil)) (blkOk_by (N := ["plan", "starts", "helper", "moment", "knowing", "letters", "carried", "number", "sender", "sent", "receiver", "arrives"]) (sc := defScope s_spread_of) (by decide +kernel)) (fun _ _ _ _ _ => (pg_name (i := 2) sc_spread_of.nd rfl (.inl rfl))) (fun _ _ _ _ _ => pts_nil) (fun _ _ _ _ _ => pe_non))
  (pss_cons (ps_for (passes_of rfl) rfl (pi_sq (pv 1)) (pg_un (by rfl) (pgs_cons (pg_name (i := 2) sc_spread_of.nd rfl (.inl rfl)) (pgs_cons (pg_name (i := 3) sc_spread_of.nd rfl (.inl rfl)) pgs_nil))) (pss_one (ps_if (PW.pt (pw_or (pt_cmpR op_isA (pe_ix (ix_A (hr).units) (pv 4) (pe_op op_subA (pv 2) pe_int) (fun _ _ => rfl)) pe_non (nomark _)) (pw_or1 (pt_cmpR op_ltA (pv 3) (pe_ix (ix_A (hr).units) (pv 4) (pe_op op_subA (pv 2) pe_int) (fun _ _ => rfl)) (nomark _))))) (pss_one (ps_asg (pv 3) (pg_sub (pv 4) (pe_op op_subA (pv 2) pe_int) set_list))) pss_nil)))
  (pss_cons (ps_set (i := 5) sc_spread_of.nd rfl (.inl rfl) (pe_calM0 C_Plan_letters hr (by decide) tk0 (pv 0)))
  (pss_cons (ps_set (i := 6) sc_spread_of.nd rfl (.inl rfl) (pe_calM C_Plan_carried hr (by decide) tk0 (pv 0) (pa_cons pe_int pa_nil)))
  (pss_cons (ps_for (passes_of rfl) rfl (pi_range1 (by rfl) T.b_range (pa_cons (pe_op op_addA (pe_calM0 C_Plan_last hr (by decide) tk0 (pv 0)) pe_int) pa_nil)) (pg_name (i := 3) sc_spread_of.nd rfl (.inl rfl)) (pss_one (ps_for (passes_of rfl) rfl (pi_sq (pv 6)) (pg_name (i := 7) sc_spread_of.nd rfl (.inl rfl)) (pss_cons (ps_asg (pe_slice sl_W (pe_ix (ix_A (hr).units) (pv 5) (pv 7) (fun _ _ => rfl)) po_none (po_some pe_int)) (pg_un (by rfl) (pgs_cons (pg_name (i := 8) sc_spread_of.nd rfl (.inl rfl)) (pgs_cons (pg_name (i := 9) sc_spread_of.nd rfl (.inl rfl)) (pgs_cons (pg_name (i := 10) sc_spread_of.nd rfl (.inl rfl)) (pgs_cons (pg_name (i := 11) sc_spread_of.nd rfl (.inl rfl)) pgs_nil))))))
  (pss_one (ps_if (PW.pt (pw_and (pt_cmpR (op_eqP (hr).units) (pv 9) (pv 3) (nomark _)) (pw_and (pt_cmpR op_isNotA (pe_ix (ix_A (hr).units) (pv 4) (pe_op op_subA (pv 8) pe_int) (fun _ _ => rfl)) pe_non (nomark _)) (pw_and1 (pt_cmpR op_leA (pe_ix (ix_A (hr).units) (pv 4) (pe_op op_subA (pv 8) pe_int) (fun _ _ => rfl)) (pv 3) (nomark _)))))) (pss_one (ps_if (PW.pt (pw_or (pt_cmpR op_isA (pe_ix (ix_A (hr).units) (pv 4) (pe_op op_subA (pv 10) pe_int) (fun _ _ => rfl)) pe_non (nomark _)) (pw_or1 (pt_cmpR op_ltA (pv 11) (pe_ix (ix_A (hr).units) (pv 4) (pe_op op_subA (pv 10) pe_int) (fun _ _ => rfl)) (nomark _))))) (pss_one (ps_asg (pv 11) (pg_sub (pv 4) (pe_op op_subA (pv 10) pe_int) set_list))) pss_nil)) pss_nil))))))
  (pss_one (ps_ret (pv 4))))))))))
theorem d_reach_of (T : Tx K mg) (C_spread_of : Cal P w K mg base 4 "spread_of" ["plan", "starts"] (c_spread_of K))  {f : Addr} {cdv : Value} {A : Around} {outer : List Env} {s : Shared} {H : Hp} {E : XK} (hr : Room (4) (A.deeper (envOfC "reach_of" (defScope s_reach_of) s.heap.objs.size f cdv))) :
    PSs (cxOf (L2.CX P w) P w K mg base ["plan", "helper", "moment"] "reach_of" (defScope s_reach_of) f cdv A outer s H E) (defBody s_reach_of) (r_reach_of K (fun cls d _ H => E cls d H)) :=
  have tk0 := takes_of (X := cxOf (L2.CX P w) P w K mg base ["plan", "helper", "moment"] "reach_of" (defScope s_reach_of) f cdv A outer s H E) (E := E) rfl rfl rfl rfl
  (pss_one (ps_ret (pe_cal C_spread_of hr (by decide) (by rfl) tk0 (pa_cons (pv 0) (pa_cons (pe_lst (pa_cons (pe_tup (pa_cons (pv 1) (pa_cons (pv 2) pa_nil))) pa_nil)) pa_nil)))))
theorem d_check_knowing (T : Tx K mg) (C_check_moment : Cal P w K mg base 3 "check_moment" ["plan", "moment"] (c_check_moment K))  {f : Addr} {cdv : Value} {A : Around} {outer : List Env} {s : Shared} {H : Hp} {E : XK} (hr : Room (3) (A.deeper (envOfC "check_knowing" (defScope s_check_knowing) s.heap.objs.size f cdv))) :
    PSs (cxOf (L2.CX P w) P w K mg base ["plan", "knowing", "moment"] "check_knowing" (defScope s_check_knowing) f cdv A outer s H E) (defBody s_check_knowing) (r_check_knowing K (fun cls d _ H => E cls d H)) :=
  have tk0 := takes_of (X := cxOf (L2.CX P w) P w K mg base ["plan", "knowing", "moment"] "check_knowing" (defScope s_check_knowing) f cdv A outer s H E) (E := E) rfl rfl rfl rfl
  (pss_one (ps_for (passes_of rfl) rfl (pi_sq (pv 1)) (pg_name (i := 2) sc_check_knowing.nd rfl (.inl rfl)) (pss_one (ps_if (pt_cmpR op_isNotA (pv 2) pe_non (nomark _)) (pss_one (ps_expr (pe_cal C_check_moment hr (by decide) (by rfl) tk0 (pa_cons (pv 0) (pa_cons (pv 2) pa_nil))))) pss_nil))))
theorem d_judge_knowing (T : Tx K mg) (C_Plan_carried : CalM P w K mg base 3 "Plan" "carried" ["self", "course"] (c_Plan_carried K)) (C_Plan_letters : CalM P w K mg base 1 "Plan" "letters" ["self"] (c_Plan_letters K)) (C_check_knowing : Cal P w K mg base 4 "check_knowing" ["plan", "knowing"] (c_check_knowing K))  {f : Addr} {cdv : Value} {A : Around} {outer : List Env} {s : Shared} {H : Hp} {E : XK} (hr : Room (4) (A.deeper (envOfC "judge_knowing" (defScope s_judge_knowing) s.heap.objs.size f cdv))) :
    PSs (cxOf (L2.CX P w) P w K mg base ["plan", "knowing", "letters", "number", "sender", "sent", "receiver", "arrives"] "judge_knowing" (defScope s_judge_knowing) f cdv A outer s H E) (defBody s_judge_knowing) (r_judge_knowing K (fun cls d _ H => E cls d H)) :=
  have tk0 := takes_of (X := cxOf (L2.CX P w) P w K mg base ["plan", "knowing", "letters", "number", "sender", "sent", "receiver", "arrives"] "judge_knowing" (defScope s_judge_knowing) f cdv A outer s H E) (E := E) rfl rfl rfl rfl
  (pss_cons (ps_expr (pe_cal C_check_knowing hr (by decide) (by rfl) tk0 (pa_cons (pv 0) (pa_cons (pv 1) pa_nil))))
  (pss_cons (ps_set (i := 2) sc_judge_knowing.nd rfl (.inl rfl) (pe_calM0 C_Plan_letters hr (by decide) tk0 (pv 0)))
  (pss_cons (ps_for (passes_of rfl) rfl (pi_sq (pe_calM C_Plan_carried hr (by decide) tk0 (pv 0) (pa_cons pe_int pa_nil))) (pg_name (i := 3) sc_judge_knowing.nd rfl (.inl rfl)) (pss_cons (ps_asg (pe_slice sl_W (pe_ix (ix_A (hr).units) (pv 2) (pv 3) (fun _ _ => rfl)) po_none (po_some pe_int)) (pg_un (by rfl) (pgs_cons (pg_name (i := 4) sc_judge_knowing.nd rfl (.inl rfl)) (pgs_cons (pg_name (i := 5) sc_judge_knowing.nd rfl (.inl rfl)) (pgs_cons (pg_name (i := 6) sc_judge_knowing.nd rfl (.inl rfl)) (pgs_cons (pg_name (i := 7) sc_judge_knowing.nd rfl (.inl rfl)) pgs_nil))))))
  (pss_one (ps_if (PW.pt (pw_and (pt_cmpR op_isNotA (pe_ix (ix_A (hr).units) (pv 1) (pe_op op_subA (pv 4) pe_int) (fun _ _ => rfl)) pe_non (nomark _)) (pw_and1 (pt_cmpR op_leA (pe_ix (ix_A (hr).units) (pv 1) (pe_op op_subA (pv 4) pe_int) (fun _ _ => rfl)) (pv 5) (nomark _))))) (pss_one (ps_if (PW.pt (pw_or (pt_cmpR op_isA (pe_ix (ix_A (hr).units) (pv 1) (pe_op op_subA (pv 6) pe_int) (fun _ _ => rfl)) pe_non (nomark _)) (pw_or1 (pt_cmpR op_gtA (pe_ix (ix_A (hr).units) (pv 1) (pe_op op_subA (pv 6) pe_int) (fun _ _ => rfl)) (pv 7) (nomark _))))) (pss_one (ps_ret (pv 3))) pss_nil)) pss_nil))))
  (pss_one (ps_ret pe_non)))))
theorem d_takers_of (T : Tx K mg) (C_Plan_decisions : CalM P w K mg base 1 "Plan" "decisions" ["self"] (c_Plan_decisions K)) (C_check_knowing : Cal P w K mg base 4 "check_knowing" ["plan", "knowing"] (c_check_knowing K))  {f : Addr} {cdv : Value} {A : Around} {outer : List Env} {s : Shared} {H : Hp} {E : XK} (hr : Room (4) (A.deeper (envOfC "takers_of" (defScope s_takers_of) s.heap.objs.size f cdv))) :
    PSs (cxOf (L2.CX P w) P w K mg base ["plan", "knowing", "names", "row", "since"] "takers_of" (defScope s_takers_of) f cdv A outer s H E) (defBody s_takers_of) (r_takers_of K (fun cls d _ H => E cls d H)) :=
  have tk0 := takes_of (X := cxOf (L2.CX P w) P w K mg base ["plan", "knowing", "names", "row", "since"] "takers_of" (defScope s_takers_of) f cdv A outer s H E) (E := E) rfl rfl rfl rfl
  (pss_cons (ps_expr (pe_cal C_check_knowing hr (by decide) (by rfl) tk0 (pa_cons (pv 0) (pa_cons (pv 1) pa_nil))))
  (pss_cons (ps_set (i := 2) sc_takers_of.nd rfl (.inl rfl) (pe_lst pa_nil))
  (pss_cons (ps_for (passes_of rfl) rfl (pi_sq (pe_calM0 C_Plan_decisions hr (by decide) tk0 (pv 0))) (pg_name (i := 3) sc_takers_of.nd rfl (.inl rfl)) (pss_cons (ps_set (i := 4) sc_takers_of.nd rfl (.inl rfl) (pe_ix (ix_A (hr).units) (pv 1) (pe_op op_subA (pe_ix (ix_A (hr).units) (pv 3) pe_int (fun _ _ => rfl)) pe_int) (fun _ _ => rfl)))
  (pss_one (ps_if (PW.pt (pw_and (pt_cmpR op_isNotA (pv 4) pe_non (nomark _)) (pw_and1 (pt_cmpR op_leA (pv 4) (pe_ix (ix_A (hr).units) (pv 3) pe_int (fun _ _ => rfl)) (nomark _))))) (pss_one (ps_expr (pe_bm PySem.F.plainAttrs_list PySem.F.slot_list_append PySem.F.type_list_append mt_append (pv 2) (pa_cons (pe_ix (ix_A (hr).units) (pv 3) pe_int (fun _ _ => rfl)) pa_nil)))) pss_nil))))
  (pss_one (ps_ret (pv 2))))))
theorem d_cone_of (T : Tx K mg) (C_Plan_decisions : CalM P w K mg base 1 "Plan" "decisions" ["self"] (c_Plan_decisions K)) (C_Plan_place : CalM P w K mg base 3 "Plan" "place" ["self", "name"] (c_Plan_place K)) (C_check_name : Cal P w K mg base 3 "check_name" ["plan", "name"] (c_check_name K)) (C_reach_of : Cal P w K mg base 5 "reach_of" ["plan", "helper", "moment"] (c_reach_of K)) (C_takers_of : Cal P w K mg base 5 "takers_of" ["plan", "knowing"] (c_takers_of K))  {f : Addr} {cdv : Value} {A : Around} {outer : List Env} {s : Shared} {H : Hp} {E : XK} (hr : Room (5) (A.deeper (envOfC "cone_of" (defScope s_cone_of) s.heap.objs.size f cdv))) :
    PSs (cxOf (L2.CX P w) P w K mg base ["plan", "name", "row"] "cone_of" (defScope s_cone_of) f cdv A outer s H E) (defBody s_cone_of) (r_cone_of K (fun cls d _ H => E cls d H)) :=
  have tk0 := takes_of (X := cxOf (L2.CX P w) P w K mg base ["plan", "name", "row"] "cone_of" (defScope s_cone_of) f cdv A outer s H E) (E := E) rfl rfl rfl rfl
  (pss_cons (ps_expr (pe_cal C_check_name hr (by decide) (by rfl) tk0 (pa_cons (pv 0) (pa_cons (pv 1) pa_nil))))
  (pss_cons (ps_set (i := 2) sc_cone_of.nd rfl (.inl rfl) (pe_ix (ix_A (hr).units) (pe_calM0 C_Plan_decisions hr (by decide) tk0 (pv 0)) (pe_calM C_Plan_place hr (by decide) tk0 (pv 0) (pa_cons (pv 1) pa_nil)) (fun _ _ => rfl)))
  (pss_one (ps_ret (pe_cal C_takers_of hr (by decide) (by rfl) tk0 (pa_cons (pv 0) (pa_cons (pe_cal C_reach_of hr (by decide) (by rfl) tk0 (pa_cons (pv 0) (pa_cons (pe_ix (ix_A (hr).units) (pv 2) pe_int (fun _ _ => rfl)) (pa_cons (pe_ix (ix_A (hr).units) (pv 2) pe_int (fun _ _ => rfl)) pa_nil)))) pa_nil)))))))
theorem d_are_together (T : Tx K mg) (C_Plan_decisions : CalM P w K mg base 1 "Plan" "decisions" ["self"] (c_Plan_decisions K)) (C_Plan_names : CalM P w K mg base 1 "Plan" "names" ["self"] (c_Plan_names K)) (C_Plan_place : CalM P w K mg base 3 "Plan" "place" ["self", "name"] (c_Plan_place K)) (I_BadNames : InitOk P w K mg base "BadNames" ["words"]) {f : Addr} {cdv : Value} {A : Around} {outer : List Env} {s : Shared} {H : Hp} {E : XK} (hr : Room (3) (A.deeper (envOfC "are_together" (defScope s_are_together) s.heap.objs.size f cdv))) :
    PSs (cxOf (L2.CX P w) P w K mg base ["plan", "one", "other", "names", "rows", "here", "there"] "are_together" (defScope s_are_together) f cdv A outer s H E) (defBody s_are_together) (r_are_together K (fun cls d _ H => E cls d H)) :=
  have tk0 := takes_of (X := cxOf (L2.CX P w) P w K mg base ["plan", "one", "other", "names", "rows", "here", "there"] "are_together" (defScope s_are_together) f cdv A outer s H E) (E := E) rfl rfl rfl rfl
  (pss_cons (ps_set (i := 3) sc_are_together.nd rfl (.inl rfl) (pe_calM0 C_Plan_names hr (by decide) tk0 (pv 0)))
  (pss_cons (ps_if (PW.pt (pw_or (pt_cmpR (op_notInA (hr).units) (pv 1) (pv 3) (by rfl)) (pw_or1 (pt_cmpR (op_notInA (hr).units) (pv 2) (pv 3) (by rfl))))) (pss_one (ps_raiseX T.x_BadNames I_BadNames hr tk0 (pa_cons (pe_lst (pa_cons (pv 1) (pa_cons (pv 2) pa_nil))) pa_nil))) pss_nil)
  (pss_cons (ps_set (i := 4) sc_are_together.nd rfl (.inl rfl) (pe_calM0 C_Plan_decisions hr (by decide) tk0 (pv 0)))
  (pss_cons (ps_par (i := 5) (j := 6) (by rfl) sc_are_together.nd rfl rfl (by decide) rfl rfl (pa_cons (pe_ix (ix_A (hr).units) (pv 4) (pe_calM C_Plan_place hr (by decide) tk0 (pv 0) (pa_cons (pv 1) pa_nil)) (fun _ _ => rfl)) (pa_cons (pe_ix (ix_A (hr).units) (pv 4) (pe_calM C_Plan_place hr (by decide) tk0 (pv 0) (pa_cons (pv 2) pa_nil)) (fun _ _ => rfl)) pa_nil)) (by rfl))
  (pss_one (ps_ret (pe_cmpR (op_eqP (hr).units) (pe_tup (pa_cons (pe_ix (ix_A (hr).units) (pv 5) pe_int (fun _ _ => rfl)) (pa_cons (pe_ix (ix_A (hr).units) (pv 5) pe_int (fun _ _ => rfl)) pa_nil))) (pe_tup (pa_cons (pe_ix (ix_A (hr).units) (pv 6) pe_int (fun _ _ => rfl)) (pa_cons (pe_ix (ix_A (hr).units) (pv 6) pe_int (fun _ _ => rfl)) pa_nil))) (nomark _))))))))
theorem d_is_word (T : Tx K mg)   {f : Addr} {cdv : Value} {A : Around} {outer : List Env} {s : Shared} {H : Hp} {E : XK} (hr : Room (0) (A.deeper (envOfC "is_word" (defScope s_is_word) s.heap.objs.size f cdv))) :
    PSs (cxOf (L2.CX P w) P w K mg base ["word", "sign"] "is_word" (defScope s_is_word) f cdv A outer s H E) (defBody s_is_word) (r_is_word K (fun cls d _ H => E cls d H)) :=
  have tk0 := takes_of (X := cxOf (L2.CX P w) P w K mg base ["word", "sign"] "is_word" (defScope s_is_word) f cdv A outer s H E) (E := E) rfl rfl rfl rfl
  (pss_cons (ps_if (PW.pt (pw_or (pt_not (pt_val (pe_callB call_isi (by rfl) T.b_isinstance (by decide +kernel) (pa_cons (pv 0) (pa_cons (pe_bltn (by rfl) T.b_str (by decide +kernel) rfl) pa_nil))))) (pw_or (pt_cmpR op_ltA (pe_callB cr_lenA (by rfl) T.b_len (by decide +kernel) (pa_cons (pv 0) pa_nil)) pe_int (nomark _)) (pw_or1 (pt_cmpR op_gtA (pe_callB cr_lenA (by rfl) T.b_len (by decide +kernel) (pa_cons (pv 0) pa_nil)) (pe_gc (by rfl) T.n_WORD_LENGTH) (nomark _)))))) (pss_one (ps_ret pe_bl)) pss_nil)
  (pss_cons (ps_if (PW.pt (pw_or (pt_cmpR (op_notInA (hr).units) (pe_ix (ix_A (hr).units) (pv 0) pe_int (fun _ _ => rfl)) (pe_gc (by rfl) T.n_FIRSTS) (by rfl)) (pw_or1 (pt_cmpR (op_inA (hr).units) (pv 0) (pe_lst (pa_cons pe_str (pa_cons pe_str pa_nil))) (by rfl))))) (pss_one (ps_ret pe_bl)) pss_nil)
  (pss_cons (ps_for (passes_of rfl) rfl (pi_sq (pv 0)) (pg_name (i := 1) sc_is_word.nd rfl (.inl rfl)) (pss_one (ps_if (pt_cmpR (op_notInA (hr).units) (pv 1) (pe_gc (by rfl) T.n_REST) (by rfl)) (pss_one (ps_ret pe_bl)) pss_nil)))
  (pss_one (ps_ret pe_bl)))))
theorem d_check_bounds (T : Tx K mg) (C_check_most : Cal P w K mg base 3 "check_most" ["what", "many", "most"] (c_check_most K)) (C_check_numbers : Cal P w K mg base 3 "check_numbers" ["numbers", "most"] (c_check_numbers K))  {f : Addr} {cdv : Value} {A : Around} {outer : List Env} {s : Shared} {H : Hp} {E : XK} (hr : Room (3) (A.deeper (envOfC "check_bounds" (defScope s_check_bounds) s.heap.objs.size f cdv))) :
    PSs (cxOf (L2.CX P w) P w K mg base ["helpers", "last", "many", "decisions", "rules", "sights", "numbers", "name", "helper", "moment", "least", "most", "row"] "check_bounds" (defScope s_check_bounds) f cdv A outer s H E) (defBody s_check_bounds) (r_check_bounds K (fun cls d _ H => E cls d H)) :=
  have tk0 := takes_of (X := cxOf (L2.CX P w) P w K mg base ["helpers", "last", "many", "decisions", "rules", "sights", "numbers", "name", "helper", "moment", "least", "most", "row"] "check_bounds" (defScope s_check_bounds) f cdv A outer s H E) (E := E) rfl rfl rfl rfl
  (pss_cons (ps_expr (pe_cal C_check_most hr (by decide) (by rfl) tk0 (pa_cons pe_str (pa_cons (pv 0) (pa_cons (pe_gc (by rfl) T.n_HELPERS) pa_nil)))))
  (pss_cons (ps_expr (pe_cal C_check_most hr (by decide) (by rfl) tk0 (pa_cons pe_str (pa_cons (pv 1) (pa_cons (pe_gc (by rfl) T.n_MOMENTS) pa_nil)))))
  (pss_cons (ps_expr (pe_cal C_check_most hr (by decide) (by rfl) tk0 (pa_cons pe_str (pa_cons (pe_ix (ix_A (hr).units) (pv 2) pe_int (fun _ _ => rfl)) (pa_cons (pe_gc (by rfl) T.n_MISHAPS) pa_nil)))))
  (pss_cons (ps_expr (pe_cal C_check_most hr (by decide) (by rfl) tk0 (pa_cons pe_str (pa_cons (pe_ix (ix_A (hr).units) (pv 2) pe_int (fun _ _ => rfl)) (pa_cons (pe_gc (by rfl) T.n_COURSES) pa_nil)))))
  (pss_cons (ps_expr (pe_cal C_check_most hr (by decide) (by rfl) tk0 (pa_cons pe_str (pa_cons (pe_ix (ix_A (hr).units) (pv 2) pe_int (fun _ _ => rfl)) (pa_cons (pe_gc (by rfl) T.n_DECISIONS) pa_nil)))))
  (pss_cons (ps_expr (pe_cal C_check_most hr (by decide) (by rfl) tk0 (pa_cons pe_str (pa_cons (pe_ix (ix_A (hr).units) (pv 2) pe_int (fun _ _ => rfl)) (pa_cons (pe_gc (by rfl) T.n_RULES) pa_nil)))))
  (pss_cons (ps_expr (pe_cal C_check_most hr (by decide) (by rfl) tk0 (pa_cons pe_str (pa_cons (pe_ix (ix_A (hr).units) (pv 2) pe_int (fun _ _ => rfl)) (pa_cons (pe_gc (by rfl) T.n_SIGHTS) pa_nil)))))
  (pss_cons (ps_expr (pe_cal C_check_most hr (by decide) (by rfl) tk0 (pa_cons pe_str (pa_cons (pe_ix (ix_A (hr).units) (pv 2) pe_int (fun _ _ => rfl)) (pa_cons (pe_gc (by rfl) T.n_LETTERS) pa_nil)))))
  (pss_cons (ps_set (i := 6) sc_check_bounds.nd rfl (.inl rfl) (pe_lst pa_nil))
  (pss_cons (ps_for (passes_of rfl) rfl (pi_sq (pv 3)) (pg_un (by rfl) (pgs_cons (pg_name (i := 7) sc_check_bounds.nd rfl (.inl rfl)) (pgs_cons (pg_name (i := 8) sc_check_bounds.nd rfl (.inl rfl)) (pgs_cons (pg_name (i := 9) sc_check_bounds.nd rfl (.inl rfl)) (pgs_cons (pg_name (i := 10) sc_check_bounds.nd rfl (.inl rfl)) (pgs_cons (pg_name (i := 11) sc_check_bounds.nd rfl (.inl rfl)) pgs_nil)))))) (pss_one (ps_expr (pe_bm PySem.F.plainAttrs_list PySem.F.slot_list_extend PySem.F.type_list_extend mt_extend (pv 6) (pa_cons (pe_lst (pa_cons (pv 10) (pa_cons (pv 11) pa_nil))) pa_nil)))))
  (pss_cons (ps_expr (pe_bm PySem.F.plainAttrs_list PySem.F.slot_list_extend PySem.F.type_list_extend mt_extend (pv 6) (pa_cons (pe_lc (own := [("row", 12)]) (g := (gName 12)) (tt := tYes) (te := (tOp (rIxA K) (tVar 12) (tC (.int 2)))) (by rfl) sc_check_bounds.nd (pi_sq (pv 4)) (blkOk_by (N := ["helpers", "last", "many", "decisions", "rules", "sights", "numbers", "name", "helper", "moment", "least", "most", "row"]) (sc := defScope s_check_bounds) (by decide +kernel)) (fun _ _ _ _ _ => (pg_name (i := 12) sc_check_bounds.nd rfl (.inl rfl))) (fun _ _ _ _ _ => pts_nil) (fun _ _ _ _ _ => (pe_ix (ix_A (hr).units) (pv 12) pe_int (fun _ _ => rfl)))) pa_nil)))
  (pss_cons (ps_expr (pe_bm PySem.F.plainAttrs_list PySem.F.slot_list_extend PySem.F.type_list_extend mt_extend (pv 6) (pa_cons (pe_lc (own := [("row", 12)]) (g := (gName 12)) (tt := tYes) (te := (tOp (rIxA K) (tVar 12) (tC (.int 4)))) (by rfl) sc_check_bounds.nd (pi_sq (pv 5)) (blkOk_by (N := ["helpers", "last", "many", "decisions", "rules", "sights", "numbers", "name", "helper", "moment", "least", "most", "row"]) (sc := defScope s_check_bounds) (by decide +kernel)) (fun _ _ _ _ _ => (pg_name (i := 12) sc_check_bounds.nd rfl (.inl rfl))) (fun _ _ _ _ _ => pts_nil) (fun _ _ _ _ _ => (pe_ix (ix_A (hr).units) (pv 12) pe_int (fun _ _ => rfl)))) pa_nil)))
  (pss_one (ps_expr (pe_cal C_check_numbers hr (by decide) (by rfl) tk0 (pa_cons (pv 6) (pa_cons (pe_gc (by rfl) T.n_NUMBERS) pa_nil)))))))))))))))))
theorem d_in_order (T : Tx K mg)   {f : Addr} {cdv : Value} {A : Around} {outer : List Env} {s : Shared} {H : Hp} {E : XK} (hr : Room (1) (A.deeper (envOfC "in_order" (defScope s_in_order) s.heap.objs.size f cdv))) :
    PSs (cxOf (L2.CX P w) P w K mg base ["words", "mishaps", "place", "word"] "in_order" (defScope s_in_order) f cdv A outer s H E) (defBody s_in_order) (r_in_order K (fun cls d _ H => E cls d H)) :=
  have tk0 := takes_of (X := cxOf (L2.CX P w) P w K mg base ["words", "mishaps", "place", "word"] "in_order" (defScope s_in_order) f cdv A outer s H E) (E := E) rfl rfl rfl rfl
  (pss_cons (ps_set (i := 2) sc_in_order.nd rfl (.inl rfl) (pe_un un_negA pe_int))
  (pss_cons (ps_for (passes_of rfl) rfl (pi_sq (pv 0)) (pg_name (i := 3) sc_in_order.nd rfl (.inl rfl)) (pss_cons (ps_if (PW.pt (pw_or (pt_cmpR (op_notInA (hr).units) (pv 3) (pv 1) (by rfl)) (pw_or1 (pt_cmpR op_leA (pe_bm PySem.F.plainAttrs_list PySem.F.slot_list_index PySem.F.type_list_index (mt_indexD (unit65 hr)) (pv 1) (pa_cons (pv 3) pa_nil)) (pv 2) (nomark _))))) (pss_one (ps_ret pe_bl)) pss_nil)
  (pss_one (ps_set (i := 2) sc_in_order.nd rfl (.inl rfl) (pe_bm PySem.F.plainAttrs_list PySem.F.slot_list_index PySem.F.type_list_index (mt_indexD (unit65 hr)) (pv 1) (pa_cons (pv 3) pa_nil))))))
  (pss_one (ps_ret pe_bl))))
theorem d_are_sides (T : Tx K mg) (C_in_order : Cal P w K mg base 2 "in_order" ["words", "mishaps"] (c_in_order K))  {f : Addr} {cdv : Value} {A : Around} {outer : List Env} {s : Shared} {H : Hp} {E : XK} (hr : Room (2) (A.deeper (envOfC "are_sides" (defScope s_are_sides) s.heap.objs.size f cdv))) :
    PSs (cxOf (L2.CX P w) P w K mg base ["yes", "no", "mishaps", "word"] "are_sides" (defScope s_are_sides) f cdv A outer s H E) (defBody s_are_sides) (r_are_sides K (fun cls d _ H => E cls d H)) :=
  have tk0 := takes_of (X := cxOf (L2.CX P w) P w K mg base ["yes", "no", "mishaps", "word"] "are_sides" (defScope s_are_sides) f cdv A outer s H E) (E := E) rfl rfl rfl rfl
  (pss_cons (ps_if (PW.pt (pw_or (pt_not (pt_val (pe_cal C_in_order hr (by decide) (by rfl) tk0 (pa_cons (pv 0) (pa_cons (pv 2) pa_nil))))) (pw_or1 (pt_not (pt_val (pe_cal C_in_order hr (by decide) (by rfl) tk0 (pa_cons (pv 1) (pa_cons (pv 2) pa_nil)))))))) (pss_one (ps_ret pe_bl)) pss_nil)
  (pss_one (ps_ret (pe_cmpR (op_eqP (hr).units) (pe_lc (own := [("word", 3)]) (g := (gName 3)) (tt := (tTest (tOp (rInA K) (tVar 3) (tVar 1)))) (te := (tVar 3)) (by rfl) sc_are_sides.nd (pi_sq (pv 0)) (blkOk_by (N := ["yes", "no", "mishaps", "word"]) (sc := defScope s_are_sides) (by decide +kernel)) (fun _ _ _ _ _ => (pg_name (i := 3) sc_are_sides.nd rfl (.inl rfl))) (fun _ _ _ _ _ => (pts_one (pt_cmpR (op_inA (hr).units) (pv 3) (pv 1) (by rfl)))) (fun _ _ _ _ _ => (pv 3))) (pe_lst pa_nil) (nomark _)))))
theorem d_check_mishaps (T : Tx K mg) (C_is_word : Cal P w K mg base 1 "is_word" ["word"] (c_is_word K)) (I_BadPlan : InitOk P w K mg base "BadPlan" ["what", "number"]) {f : Addr} {cdv : Value} {A : Around} {outer : List Env} {s : Shared} {H : Hp} {E : XK} (hr : Room (2) (A.deeper (envOfC "check_mishaps" (defScope s_check_mishaps) s.heap.objs.size f cdv))) :
    PSs (cxOf (L2.CX P w) P w K mg base ["mishaps", "number"] "check_mishaps" (defScope s_check_mishaps) f cdv A outer s H E) (defBody s_check_mishaps) (r_check_mishaps K (fun cls d _ H => E cls d H)) :=
  have tk0 := takes_of (X := cxOf (L2.CX P w) P w K mg base ["mishaps", "number"] "check_mishaps" (defScope s_check_mishaps) f cdv A outer s H E) (E := E) rfl rfl rfl rfl
  (pss_one (ps_for (passes_of rfl) rfl (pi_range1 (by rfl) T.b_range (pa_cons (pe_callB cr_lenA (by rfl) T.b_len (by decide +kernel) (pa_cons (pv 0) pa_nil)) pa_nil)) (pg_name (i := 1) sc_check_mishaps.nd rfl (.inl rfl)) (pss_one (ps_if (PW.pt (pw_or (pt_not (pt_val (pe_cal C_is_word hr (by decide) (by rfl) tk0 (pa_cons (pe_ix (ix_A (hr).units) (pv 0) (pv 1) (fun _ _ => rfl)) pa_nil)))) (pw_or1 (pt_cmpR (op_inA (hr).units) (pe_ix (ix_A (hr).units) (pv 0) (pv 1) (fun _ _ => rfl)) (pe_slice sl_W (pv 0) po_none (po_some (pv 1))) (by rfl))))) (pss_one (ps_raiseX T.x_BadPlan I_BadPlan hr tk0 (pa_cons pe_str (pa_cons (pv 1) pa_nil)))) pss_nil))))
theorem d_check_courses (T : Tx K mg) (C_in_order : Cal P w K mg base 2 "in_order" ["words", "mishaps"] (c_in_order K)) (I_BadPlan : InitOk P w K mg base "BadPlan" ["what", "number"]) {f : Addr} {cdv : Value} {A : Around} {outer : List Env} {s : Shared} {H : Hp} {E : XK} (hr : Room (2) (A.deeper (envOfC "check_courses" (defScope s_check_courses) s.heap.objs.size f cdv))) :
    PSs (cxOf (L2.CX P w) P w K mg base ["courses", "mishaps", "number"] "check_courses" (defScope s_check_courses) f cdv A outer s H E) (defBody s_check_courses) (r_check_courses K (fun cls d _ H => E cls d H)) :=
  have tk0 := takes_of (X := cxOf (L2.CX P w) P w K mg base ["courses", "mishaps", "number"] "check_courses" (defScope s_check_courses) f cdv A outer s H E) (E := E) rfl rfl rfl rfl
  (pss_cons (ps_if (PW.pt (pw_or (pt_cmpR (op_eqP (hr).units) (pv 0) (pe_lst pa_nil) (nomark _)) (pw_or1 (pt_cmpR (op_neP (hr).units) (pe_ix (ix_A (hr).units) (pv 0) pe_int (fun _ _ => rfl)) (pe_lst pa_nil) (nomark _))))) (pss_one (ps_raiseX T.x_BadPlan I_BadPlan hr tk0 (pa_cons pe_str (pa_cons pe_int pa_nil)))) pss_nil)
  (pss_one (ps_for (passes_of rfl) rfl (pi_range1 (by rfl) T.b_range (pa_cons (pe_callB cr_lenA (by rfl) T.b_len (by decide +kernel) (pa_cons (pv 0) pa_nil)) pa_nil)) (pg_name (i := 2) sc_check_courses.nd rfl (.inl rfl)) (pss_one (ps_if (PW.pt (pw_or (pt_not (pt_val (pe_cal C_in_order hr (by decide) (by rfl) tk0 (pa_cons (pe_ix (ix_A (hr).units) (pv 0) (pv 2) (fun _ _ => rfl)) (pa_cons (pv 1) pa_nil))))) (pw_or1 (pt_cmpR (op_inA (hr).units) (pe_ix (ix_A (hr).units) (pv 0) (pv 2) (fun _ _ => rfl)) (pe_slice sl_W (pv 0) po_none (po_some (pv 2))) (by rfl))))) (pss_one (ps_raiseX T.x_BadPlan I_BadPlan hr tk0 (pa_cons pe_str (pa_cons (pv 2) pa_nil)))) pss_nil)))))
theorem d_check_decisions (T : Tx K mg) (C_is_word : Cal P w K mg base 1 "is_word" ["word"] (c_is_word K)) (I_BadPlan : InitOk P w K mg base "BadPlan" ["what", "number"]) {f : Addr} {cdv : Value} {A : Around} {outer : List Env} {s : Shared} {H : Hp} {E : XK} (hr : Room (2) (A.deeper (envOfC "check_decisions" (defScope s_check_decisions) s.heap.objs.size f cdv))) :
    PSs (cxOf (L2.CX P w) P w K mg base ["decisions", "helpers", "last", "before", "number", "name", "helper", "moment", "least", "most", "fits"] "check_decisions" (defScope s_check_decisions) f cdv A outer s H E) (defBody s_check_decisions) (r_check_decisions K (fun cls d _ H => E cls d H)) :=
  have tk0 := takes_of (X := cxOf (L2.CX P w) P w K mg base ["decisions", "helpers", "last", "before", "number", "name", "helper", "moment", "least", "most", "fits"] "check_decisions" (defScope s_check_decisions) f cdv A outer s H E) (E := E) rfl rfl rfl rfl
  (pss_cons (ps_set (i := 3) sc_check_decisions.nd rfl (.inl rfl) pe_dnewK)
  (pss_one (ps_for (passes_of rfl) rfl (pi_range1 (by rfl) T.b_range (pa_cons (pe_callB cr_lenA (by rfl) T.b_len (by decide +kernel) (pa_cons (pv 0) pa_nil)) pa_nil)) (pg_name (i := 4) sc_check_decisions.nd rfl (.inl rfl)) (pss_cons (ps_asg (pe_ix (ix_A (hr).units) (pv 0) (pv 4) (fun _ _ => rfl)) (pg_un (by rfl) (pgs_cons (pg_name (i := 5) sc_check_decisions.nd rfl (.inl rfl)) (pgs_cons (pg_name (i := 6) sc_check_decisions.nd rfl (.inl rfl)) (pgs_cons (pg_name (i := 7) sc_check_decisions.nd rfl (.inl rfl)) (pgs_cons (pg_name (i := 8) sc_check_decisions.nd rfl (.inl rfl)) (pgs_cons (pg_name (i := 9) sc_check_decisions.nd rfl (.inl rfl)) pgs_nil)))))))
  (pss_cons (ps_set (i := 10) sc_check_decisions.nd rfl (.inl rfl) (pe_and (pe_chain op_leA op_leA pe_int (pv 6) (pv 1)) (pe_and (pe_chain op_leA op_leA pe_int (pv 7) (pv 2)) (pe_one (pe_cmpR op_leA (pv 8) (pv 9) (nomark _))))))
  (pss_cons (ps_if (PW.pt (pw_or (pt_not (pt_val (pe_cal C_is_word hr (by decide) (by rfl) tk0 (pa_cons (pv 5) pa_nil)))) (pw_or (pt_cmpR (op_inA (hr).units) (pv 5) (pv 3) (by rfl)) (pw_or1 (pt_not (pt_val (pv 10))))))) (pss_one (ps_raiseX T.x_BadPlan I_BadPlan hr tk0 (pa_cons pe_str (pa_cons (pv 4) pa_nil)))) pss_nil)
  (pss_one (ps_dput (hu_of hr) (pv 3) (pv 5) (pv 4) rfl))))))))
theorem d_check_rules (T : Tx K mg) (C_are_sides : Cal P w K mg base 3 "are_sides" ["yes", "no", "mishaps"] (c_are_sides K)) (I_BadPlan : InitOk P w K mg base "BadPlan" ["what", "number"]) {f : Addr} {cdv : Value} {A : Around} {outer : List Env} {s : Shared} {H : Hp} {E : XK} (hr : Room (3) (A.deeper (envOfC "check_rules" (defScope s_check_rules) s.heap.objs.size f cdv))) :
    PSs (cxOf (L2.CX P w) P w K mg base ["rules", "names", "mishaps", "known", "name", "number", "by", "plus", "yes", "no"] "check_rules" (defScope s_check_rules) f cdv A outer s H E) (defBody s_check_rules) (r_check_rules P w K (fun cls d _ H => E cls d H)) :=
  have tk0 := takes_of (X := cxOf (L2.CX P w) P w K mg base ["rules", "names", "mishaps", "known", "name", "number", "by", "plus", "yes", "no"] "check_rules" (defScope s_check_rules) f cdv A outer s H E) (E := E) rfl rfl rfl rfl
  (pss_cons (ps_set (i := 3) sc_check_rules.nd rfl (.inl rfl) (pe_ndisp pe_int))
  (pss_cons (ps_for (passes_of rfl) rfl (pi_sq (pv 1)) (pg_name (i := 4) sc_check_rules.nd rfl (.inl rfl)) (pss_one (ps_nput (pv 3) (pv 4) pe_int)))
  (pss_one (ps_for (passes_of rfl) rfl (pi_range1 (by rfl) T.b_range (pa_cons (pe_callB cr_lenA (by rfl) T.b_len (by decide +kernel) (pa_cons (pv 0) pa_nil)) pa_nil)) (pg_name (i := 5) sc_check_rules.nd rfl (.inl rfl)) (pss_cons (ps_asg (pe_ix (ix_A (hr).units) (pv 0) (pv 5) (fun _ _ => rfl)) (pg_un (by rfl) (pgs_cons (pg_name (i := 4) sc_check_rules.nd rfl (.inl rfl)) (pgs_cons (pg_name (i := 6) sc_check_rules.nd rfl (.inl rfl)) (pgs_cons (pg_name (i := 7) sc_check_rules.nd rfl (.inl rfl)) (pgs_cons (pg_name (i := 8) sc_check_rules.nd rfl (.inl rfl)) (pgs_cons (pg_name (i := 9) sc_check_rules.nd rfl (.inl rfl)) pgs_nil)))))))
  (pss_one (ps_if (PW.pt (pw_or (pt_cmpR op_notInN (pv 4) (pv 3) (by rfl)) (pw_or (pt_cmpR op_notInN (pv 6) (pv 3) (by rfl)) (pw_or (pt_cmpR (op_eqP (hr).units) (pv 4) (pv 6) (nomark _)) (pw_or1 (pt_not (pt_val (pe_cal C_are_sides hr (by decide) (by rfl) tk0 (pa_cons (pv 8) (pa_cons (pv 9) (pa_cons (pv 2) pa_nil))))))))))) (pss_one (ps_raiseX T.x_BadPlan I_BadPlan hr tk0 (pa_cons pe_str (pa_cons (pv 5) pa_nil)))) pss_nil)))))))
theorem d_check_sights (T : Tx K mg)  (I_BadPlan : InitOk P w K mg base "BadPlan" ["what", "number"]) {f : Addr} {cdv : Value} {A : Around} {outer : List Env} {s : Shared} {H : Hp} {E : XK} (hr : Room (2) (A.deeper (envOfC "check_sights" (defScope s_check_sights) s.heap.objs.size f cdv))) :
    PSs (cxOf (L2.CX P w) P w K mg base ["sights", "decisions", "helpers", "last", "mishaps", "made", "name", "helper", "moment", "least", "most", "number", "mishap", "doing", "reach", "fits"] "check_sights" (defScope s_check_sights) f cdv A outer s H E) (defBody s_check_sights) (r_check_sights K (fun cls d _ H => E cls d H)) :=
  have tk0 := takes_of (X := cxOf (L2.CX P w) P w K mg base ["sights", "decisions", "helpers", "last", "mishaps", "made", "name", "helper", "moment", "least", "most", "number", "mishap", "doing", "reach", "fits"] "check_sights" (defScope s_check_sights) f cdv A outer s H E) (E := E) rfl rfl rfl rfl
  (pss_cons (ps_set (i := 5) sc_check_sights.nd rfl (.inl rfl) pe_dnewK)
  (pss_cons (ps_for (passes_of rfl) rfl (pi_sq (pv 1)) (pg_un (by rfl) (pgs_cons (pg_name (i := 6) sc_check_sights.nd rfl (.inl rfl)) (pgs_cons (pg_name (i := 7) sc_check_sights.nd rfl (.inl rfl)) (pgs_cons (pg_name (i := 8) sc_check_sights.nd rfl (.inl rfl)) (pgs_cons (pg_name (i := 9) sc_check_sights.nd rfl (.inl rfl)) (pgs_cons (pg_name (i := 10) sc_check_sights.nd rfl (.inl rfl)) pgs_nil)))))) (pss_one (ps_dput (hu_of hr) (pv 5) (pv 6) (pe_tup (pa_cons (pv 7) (pa_cons (pv 8) pa_nil))) rfl)))
  (pss_one (ps_for (passes_of rfl) rfl (pi_range1 (by rfl) T.b_range (pa_cons (pe_callB cr_lenA (by rfl) T.b_len (by decide +kernel) (pa_cons (pv 0) pa_nil)) pa_nil)) (pg_name (i := 11) sc_check_sights.nd rfl (.inl rfl)) (pss_cons (ps_asg (pe_ix (ix_A (hr).units) (pv 0) (pv 11) (fun _ _ => rfl)) (pg_un (by rfl) (pgs_cons (pg_name (i := 12) sc_check_sights.nd rfl (.inl rfl)) (pgs_cons (pg_name (i := 7) sc_check_sights.nd rfl (.inl rfl)) (pgs_cons (pg_name (i := 8) sc_check_sights.nd rfl (.inl rfl)) (pgs_cons (pg_name (i := 13) sc_check_sights.nd rfl (.inl rfl)) (pgs_cons (pg_name (i := 14) sc_check_sights.nd rfl (.inl rfl)) pgs_nil)))))))
  (pss_cons (ps_set (i := 15) sc_check_sights.nd rfl (.inl rfl) (pe_and (pe_cmpR (op_inA (hr).units) (pv 12) (pv 4) (by rfl)) (pe_and (pe_chain op_leA op_leA pe_int (pv 7) (pv 2)) (pe_one (pe_chain op_leA op_leA pe_int (pv 8) (pv 3))))))
  (pss_cons (ps_if (pt_cmpR op_isA (pv 13) pe_non (nomark _)) (pss_one (ps_set (i := 15) sc_check_sights.nd rfl (.inl rfl) (pe_and (pv 15) (pe_one (pe_cmpR (op_eqP (hr).units) (pv 14) pe_int (nomark _)))))) (pss_one (ps_set (i := 15) sc_check_sights.nd rfl (.inl rfl) (pe_and (pv 15) (pe_and (pe_cmpR (op_inA (hr).units) (pv 13) (pv 5) (by rfl)) (pe_and (pe_cmpR (op_eqP (hr).units) (pe_ix (ix_A (hr).units) (pe_ix (ix_A (hr).units) (pv 5) (pv 13) (fun _ _ => rfl)) pe_int (fun _ _ => rfl)) (pv 7) (nomark _)) (pe_one (pe_cmpR op_ltA (pe_ix (ix_A (hr).units) (pe_ix (ix_A (hr).units) (pv 5) (pv 13) (fun _ _ => rfl)) pe_int (fun _ _ => rfl)) (pv 8) (nomark _)))))))))
  (pss_one (ps_if (pt_not (pt_val (pv 15))) (pss_one (ps_raiseX T.x_BadPlan I_BadPlan hr tk0 (pa_cons pe_str (pa_cons (pv 11) pa_nil)))) pss_nil)))))))))
theorem d_check_letters (T : Tx K mg) (C_are_sides : Cal P w K mg base 3 "are_sides" ["yes", "no", "mishaps"] (c_are_sides K)) (I_BadPlan : InitOk P w K mg base "BadPlan" ["what", "number"]) {f : Addr} {cdv : Value} {A : Around} {outer : List Env} {s : Shared} {H : Hp} {E : XK} (hr : Room (3) (A.deeper (envOfC "check_letters" (defScope s_check_letters) s.heap.objs.size f cdv))) :
    PSs (cxOf (L2.CX P w) P w K mg base ["letters", "helpers", "last", "mishaps", "number", "sender", "sent", "receiver", "arrives", "yes", "no", "fits"] "check_letters" (defScope s_check_letters) f cdv A outer s H E) (defBody s_check_letters) (r_check_letters K (fun cls d _ H => E cls d H)) :=
  have tk0 := takes_of (X := cxOf (L2.CX P w) P w K mg base ["letters", "helpers", "last", "mishaps", "number", "sender", "sent", "receiver", "arrives", "yes", "no", "fits"] "check_letters" (defScope s_check_letters) f cdv A outer s H E) (E := E) rfl rfl rfl rfl
  (pss_one (ps_for (passes_of rfl) rfl (pi_range1 (by rfl) T.b_range (pa_cons (pe_callB cr_lenA (by rfl) T.b_len (by decide +kernel) (pa_cons (pv 0) pa_nil)) pa_nil)) (pg_name (i := 4) sc_check_letters.nd rfl (.inl rfl)) (pss_cons (ps_asg (pe_ix (ix_A (hr).units) (pv 0) (pv 4) (fun _ _ => rfl)) (pg_un (by rfl) (pgs_cons (pg_name (i := 5) sc_check_letters.nd rfl (.inl rfl)) (pgs_cons (pg_name (i := 6) sc_check_letters.nd rfl (.inl rfl)) (pgs_cons (pg_name (i := 7) sc_check_letters.nd rfl (.inl rfl)) (pgs_cons (pg_name (i := 8) sc_check_letters.nd rfl (.inl rfl)) (pgs_cons (pg_name (i := 9) sc_check_letters.nd rfl (.inl rfl)) (pgs_cons (pg_name (i := 10) sc_check_letters.nd rfl (.inl rfl)) pgs_nil))))))))
  (pss_cons (ps_set (i := 11) sc_check_letters.nd rfl (.inl rfl) (pe_and (pe_chain op_leA op_leA pe_int (pv 5) (pv 1)) (pe_and (pe_chain op_leA op_leA pe_int (pv 7) (pv 1)) (pe_one (pe_cmpR (op_neP (hr).units) (pv 5) (pv 7) (nomark _))))))
  (pss_one (ps_if (PW.pt (pw_or (pt_not (pt_val (pv 11))) (pw_or (pt_not (pt_chain3 op_leA op_ltA op_leA pe_int (pv 6) (pv 8) (pv 2))) (pw_or1 (pt_not (pt_val (pe_cal C_are_sides hr (by decide) (by rfl) tk0 (pa_cons (pv 9) (pa_cons (pv 10) (pa_cons (pv 3) pa_nil)))))))))) (pss_one (ps_raiseX T.x_BadPlan I_BadPlan hr tk0 (pa_cons pe_str (pa_cons (pv 4) pa_nil)))) pss_nil))))))
theorem d__law_purse (T : Tx K mg)   {f : Addr} {cdv : Value} {A : Around} {outer : List Env} {s : Shared} {H : Hp} {E : XK} (hr : Room (0) (A.deeper (envOfC "_law_purse" (defScope s__law_purse) s.heap.objs.size f cdv))) :
    PSs (cxOf (L2.CX P w) P w K mg base ["script", "at", "cell", "size", "one"] "_law_purse" (defScope s__law_purse) f cdv A outer s H E) (defBody s__law_purse) (r__law_purse K (fun cls d _ H => E cls d H)) :=
  have tk0 := takes_of (X := cxOf (L2.CX P w) P w K mg base ["script", "at", "cell", "size", "one"] "_law_purse" (defScope s__law_purse) f cdv A outer s H E) (E := E) rfl rfl rfl rfl
  (pss_cons (ps_set (i := 2) sc__law_purse.nd rfl (.inl rfl) (pe_ifExp (pt_cmpR op_ltA (pv 1) (pe_callB cr_lenA (by rfl) T.b_len (by decide +kernel) (pa_cons (pv 0) pa_nil)) (nomark _)) (pe_callTy cr_intI (by rfl) T.b_int (by decide +kernel) (pa_cons (pe_ix (ix_A (hr).units) (pv 0) (pv 1) (fun _ _ => rfl)) pa_nil)) (pe_op op_mulA pe_int (pe_callB (cr_sumA rfl) (by rfl) T.b_sum (by decide +kernel) (pa_cons (pe_lc (own := [("one", 4)]) (g := (gName 4)) (tt := tYes) (te := (tCB rIntI (tCons (tVar 4) tNil))) (by rfl) sc__law_purse.nd (pi_sq (pe_slice sl_W (pv 0) po_none (po_some pe_int))) (blkOk_by (N := ["script", "at", "cell", "size", "one"]) (sc := defScope s__law_purse) (by decide +kernel)) (fun _ _ _ _ _ => (pg_name (i := 4) sc__law_purse.nd rfl (.inl rfl))) (fun _ _ _ _ _ => pts_nil) (fun _ _ _ _ _ => (pe_callTy cr_intI (by rfl) T.b_int (by decide +kernel) (pa_cons (pv 4) pa_nil)))) pa_nil)))))
  (pss_cons (ps_set (i := 3) sc__law_purse.nd rfl (.inl rfl) (pe_op op_addA (pe_op op_mulA pe_int (pe_callB cr_absI (by rfl) T.b_abs (by decide +kernel) (pa_cons (pv 2) pa_nil))) (pe_ifExp (pt_cmpR op_ltA (pv 2) pe_int (nomark _)) pe_int pe_int)))
  (pss_one (ps_ret (pe_lst (pa_cons (pe_ifExp (pt_cmpR op_geA (pv 3) (pe_op op_powA pe_int pe_int) (nomark _)) (pv 3) pe_int) (pa_cons (pe_op op_modA (pe_callTy cr_intI (by rfl) T.b_int (by decide +kernel) (pa_cons (pe_op op_addA (pe_op op_addA (pv 3) (pe_op op_mulA (pv 1) pe_int)) pe_int) pa_nil)) pe_int) (pa_cons (pv 1) pa_nil))))))))
theorem d__law_draw (T : Tx K mg)   {f : Addr} {cdv : Value} {A : Around} {outer : List Env} {s : Shared} {H : Hp} {E : XK} (hr : Room (0) (A.deeper (envOfC "_law_draw" (defScope s__law_draw) s.heap.objs.size f cdv))) :
    PSs (cxOf (L2.CX P w) P w K mg base ["purse", "many", "found"] "_law_draw" (defScope s__law_draw) f cdv A outer s H E) (defBody s__law_draw) (r__law_draw K (fun cls d _ H => E cls d H)) :=
  have tk0 := takes_of (X := cxOf (L2.CX P w) P w K mg base ["purse", "many", "found"] "_law_draw" (defScope s__law_draw) f cdv A outer s H E) (E := E) rfl rfl rfl rfl
  (pss_cons (ps_if (pt_cmpR op_gtA (pe_ix (ix_A (hr).units) (pv 0) pe_int (fun _ _ => rfl)) pe_int (nomark _)) (pss_cons (ps_set (i := 2) sc__law_draw.nd rfl (.inl rfl) (pe_op op_modA (pe_callTy cr_intI (by rfl) T.b_int (by decide +kernel) (pa_cons (pe_ix (ix_A (hr).units) (pv 0) pe_int (fun _ _ => rfl)) pa_nil)) (pv 1)))
  (pss_cons (ps_asg (pe_op op_divA (pe_ix (ix_A (hr).units) (pv 0) pe_int (fun _ _ => rfl)) (pv 1)) (pg_sub (pv 0) pe_int set_list))
  (pss_one (ps_ret (pv 2))))) pss_nil)
  (pss_cons (ps_augS (pv 0) pe_int pget_list pe_int ip_add set_list)
  (pss_cons (ps_asg (pe_op op_modA (pe_callTy cr_intI (by rfl) T.b_int (by decide +kernel) (pa_cons (pe_op op_addA (pe_op op_mulA (pe_ix (ix_A (hr).units) (pv 0) pe_int (fun _ _ => rfl)) pe_int) (pe_op op_mulA (pe_ix (ix_A (hr).units) (pv 0) pe_int (fun _ _ => rfl)) pe_int)) pa_nil)) pe_int) (pg_sub (pv 0) pe_int set_list))
  (pss_one (ps_ret (pe_op op_modA (pe_op op_divA (pe_op op_modA (pe_callTy cr_intI (by rfl) T.b_int (by decide +kernel) (pa_cons (pe_op op_addA (pe_op op_mulA (pe_ix (ix_A (hr).units) (pv 0) pe_int (fun _ _ => rfl)) pe_int) (pe_op op_mulA (pe_ix (ix_A (hr).units) (pv 0) pe_int (fun _ _ => rfl)) pe_int)) pa_nil)) pe_int) pe_int) (pv 1)))))))
theorem d__law_word (T : Tx K mg) (C__law_draw : Cal P w K mg base 1 "_law_draw" ["purse", "many"] (c__law_draw K))  {f : Addr} {cdv : Value} {A : Around} {outer : List Env} {s : Shared} {H : Hp} {E : XK} (hr : Room (1) (A.deeper (envOfC "_law_word" (defScope s__law_word) s.heap.objs.size f cdv))) :
    PSs (cxOf (L2.CX P w) P w K mg base ["purse", "taken", "signs", "base", "turn", "word"] "_law_word" (defScope s__law_word) f cdv A outer s H E) (defBody s__law_word) (r__law_word K (fun cls d _ H => E cls d H)) :=
  have tk0 := takes_of (X := cxOf (L2.CX P w) P w K mg base ["purse", "taken", "signs", "base", "turn", "word"] "_law_word" (defScope s__law_word) f cdv A outer s H E) (E := E) rfl rfl rfl rfl
  (pss_cons (ps_set (i := 2) sc__law_word.nd rfl (.inl rfl) pe_str)
  (pss_cons (ps_set (i := 3) sc__law_word.nd rfl (.inl rfl) (pe_ix (ix_A (hr).units) (pv 2) (pe_cal C__law_draw hr (by decide) (by rfl) tk0 (pa_cons (pv 0) (pa_cons pe_int pa_nil))) (fun _ _ => rfl)))
  (pss_cons (ps_for (passes_of rfl) rfl (pi_range1 (by rfl) T.b_range (pa_cons (pe_ifExp (pt_cmpR (op_eqP (hr).units) (pe_cal C__law_draw hr (by decide) (by rfl) tk0 (pa_cons (pv 0) (pa_cons pe_int pa_nil))) pe_int (nomark _)) pe_int (pe_cal C__law_draw hr (by decide) (by rfl) tk0 (pa_cons (pv 0) (pa_cons pe_int pa_nil)))) pa_nil)) (pg_name (i := 4) sc__law_word.nd rfl (.inl rfl)) (pss_one (ps_set (i := 3) sc__law_word.nd rfl (.inl rfl) (pe_op op_addA (pv 3) (pe_ix (ix_A (hr).units) (pv 2) (pe_cal C__law_draw hr (by decide) (by rfl) tk0 (pa_cons (pv 0) (pa_cons pe_int pa_nil))) (fun _ _ => rfl))))))
  (pss_cons (ps_set (i := 5) sc__law_word.nd rfl (.inl rfl) (pv 3))
  (pss_cons (ps_for (passes_of rfl) rfl (pi_range1 (by rfl) T.b_range (pa_cons pe_int pa_nil)) (pg_name (i := 4) sc__law_word.nd rfl (.inl rfl)) (pss_cons (ps_if (PW.pt (pw_and (pt_cmpR (op_notInA (hr).units) (pv 5) (pv 1) (by rfl)) (pw_and1 (pt_cmpR (op_notInA (hr).units) (pv 5) (pe_lst (pa_cons pe_str (pa_cons pe_str pa_nil))) (by rfl))))) (pss_one (ps_ret (pv 5))) pss_nil)
  (pss_one (ps_set (i := 5) sc__law_word.nd rfl (.inl rfl) (pe_op op_addA (pe_slice sl_W (pv 3) po_none (po_some pe_int)) (pe_callTy cr_strI (by rfl) T.b_str (by decide +kernel) (pa_cons (pv 4) pa_nil)))))))
  (pss_one (ps_ret (pv 5))))))))
theorem d__law_words (T : Tx K mg) (C__law_word : Cal P w K mg base 2 "_law_word" ["purse", "taken"] (c__law_word K))  {f : Addr} {cdv : Value} {A : Around} {outer : List Env} {s : Shared} {H : Hp} {E : XK} (hr : Room (2) (A.deeper (envOfC "_law_words" (defScope s__law_words) s.heap.objs.size f cdv))) :
    PSs (cxOf (L2.CX P w) P w K mg base ["purse", "many", "words", "turn"] "_law_words" (defScope s__law_words) f cdv A outer s H E) (defBody s__law_words) (r__law_words K (fun cls d _ H => E cls d H)) :=
  have tk0 := takes_of (X := cxOf (L2.CX P w) P w K mg base ["purse", "many", "words", "turn"] "_law_words" (defScope s__law_words) f cdv A outer s H E) (E := E) rfl rfl rfl rfl
  (pss_cons (ps_set (i := 2) sc__law_words.nd rfl (.inl rfl) (pe_lst pa_nil))
  (pss_cons (ps_for (passes_of rfl) rfl (pi_range1 (by rfl) T.b_range (pa_cons (pv 1) pa_nil)) (pg_name (i := 3) sc__law_words.nd rfl (.inl rfl)) (pss_one (ps_expr (pe_bm PySem.F.plainAttrs_list PySem.F.slot_list_append PySem.F.type_list_append mt_append (pv 2) (pa_cons (pe_cal C__law_word hr (by decide) (by rfl) tk0 (pa_cons (pv 0) (pa_cons (pv 2) pa_nil))) pa_nil)))))
  (pss_one (ps_ret (pv 2)))))
theorem d__law_sides (T : Tx K mg) (C__law_draw : Cal P w K mg base 1 "_law_draw" ["purse", "many"] (c__law_draw K))  {f : Addr} {cdv : Value} {A : Around} {outer : List Env} {s : Shared} {H : Hp} {E : XK} (hr : Room (1) (A.deeper (envOfC "_law_sides" (defScope s__law_sides) s.heap.objs.size f cdv))) :
    PSs (cxOf (L2.CX P w) P w K mg base ["purse", "mishaps", "yes", "no", "word", "kind"] "_law_sides" (defScope s__law_sides) f cdv A outer s H E) (defBody s__law_sides) (r__law_sides K (fun cls d _ H => E cls d H)) :=
  have tk0 := takes_of (X := cxOf (L2.CX P w) P w K mg base ["purse", "mishaps", "yes", "no", "word", "kind"] "_law_sides" (defScope s__law_sides) f cdv A outer s H E) (E := E) rfl rfl rfl rfl
  (pss_cons (ps_set (i := 2) sc__law_sides.nd rfl (.inl rfl) (pe_lst pa_nil))
  (pss_cons (ps_set (i := 3) sc__law_sides.nd rfl (.inl rfl) (pe_lst pa_nil))
  (pss_cons (ps_for (passes_of rfl) rfl (pi_sq (pv 1)) (pg_name (i := 4) sc__law_sides.nd rfl (.inl rfl)) (pss_cons (ps_set (i := 5) sc__law_sides.nd rfl (.inl rfl) (pe_cal C__law_draw hr (by decide) (by rfl) tk0 (pa_cons (pv 0) (pa_cons pe_int pa_nil))))
  (pss_cons (ps_if (pt_cmpR (op_eqP (hr).units) (pv 5) pe_int (nomark _)) (pss_one (ps_expr (pe_bm PySem.F.plainAttrs_list PySem.F.slot_list_append PySem.F.type_list_append mt_append (pv 2) (pa_cons (pv 4) pa_nil)))) pss_nil)
  (pss_one (ps_if (pt_cmpR (op_eqP (hr).units) (pv 5) pe_int (nomark _)) (pss_one (ps_expr (pe_bm PySem.F.plainAttrs_list PySem.F.slot_list_append PySem.F.type_list_append mt_append (pv 3) (pa_cons (pv 4) pa_nil)))) pss_nil)))))
  (pss_one (ps_ret (pe_lst (pa_cons (pv 2) (pa_cons (pv 3) pa_nil))))))))
theorem d__law_letters (T : Tx K mg) (C__law_draw : Cal P w K mg base 1 "_law_draw" ["purse", "many"] (c__law_draw K)) (C__law_sides : Cal P w K mg base 2 "_law_sides" ["purse", "mishaps"] (c__law_sides K))  {f : Addr} {cdv : Value} {A : Around} {outer : List Env} {s : Shared} {H : Hp} {E : XK} (hr : Room (2) (A.deeper (envOfC "_law_letters" (defScope s__law_letters) s.heap.objs.size f cdv))) :
    PSs (cxOf (L2.CX P w) P w K mg base ["purse", "helpers", "last", "mishaps", "many", "found", "turn", "sender", "receiver", "sent", "arrives", "sides"] "_law_letters" (defScope s__law_letters) f cdv A outer s H E) (defBody s__law_letters) (r__law_letters K (fun cls d _ H => E cls d H)) :=
  have tk0 := takes_of (X := cxOf (L2.CX P w) P w K mg base ["purse", "helpers", "last", "mishaps", "many", "found", "turn", "sender", "receiver", "sent", "arrives", "sides"] "_law_letters" (defScope s__law_letters) f cdv A outer s H E) (E := E) rfl rfl rfl rfl
  (pss_cons (ps_set (i := 5) sc__law_letters.nd rfl (.inl rfl) (pe_lst pa_nil))
  (pss_cons (ps_for (passes_of rfl) rfl (pi_range1 (by rfl) T.b_range (pa_cons (pe_ifExp (PW.pt (pw_and (pt_cmpR op_gtA (pv 1) pe_int (nomark _)) (pw_and1 (pt_cmpR op_gtA (pv 2) pe_int (nomark _))))) (pv 4) pe_int) pa_nil)) (pg_name (i := 6) sc__law_letters.nd rfl (.inl rfl)) (pss_cons (ps_set (i := 7) sc__law_letters.nd rfl (.inl rfl) (pe_op op_addA pe_int (pe_cal C__law_draw hr (by decide) (by rfl) tk0 (pa_cons (pv 0) (pa_cons (pv 1) pa_nil)))))
  (pss_cons (ps_set (i := 8) sc__law_letters.nd rfl (.inl rfl) (pe_op op_addA (pe_op op_modA (pe_callTy cr_intI (by rfl) T.b_int (by decide +kernel) (pa_cons (pe_op op_addA (pv 7) (pe_cal C__law_draw hr (by decide) (by rfl) tk0 (pa_cons (pv 0) (pa_cons (pe_op op_subA (pv 1) pe_int) pa_nil)))) pa_nil)) (pv 1)) pe_int))
  (pss_cons (ps_set (i := 9) sc__law_letters.nd rfl (.inl rfl) (pe_cal C__law_draw hr (by decide) (by rfl) tk0 (pa_cons (pv 0) (pa_cons (pv 2) pa_nil))))
  (pss_cons (ps_set (i := 10) sc__law_letters.nd rfl (.inl rfl) (pe_op op_addA (pe_op op_addA (pv 9) pe_int) (pe_cal C__law_draw hr (by decide) (by rfl) tk0 (pa_cons (pv 0) (pa_cons (pe_callB (cr_minA rfl) (by rfl) T.b_min (by decide +kernel) (pa_cons pe_int (pa_cons (pe_op op_subA (pv 2) (pv 9)) pa_nil))) pa_nil)))))
  (pss_cons (ps_set (i := 11) sc__law_letters.nd rfl (.inl rfl) (pe_ifExp (pt_cmpR (op_eqP (hr).units) (pe_cal C__law_draw hr (by decide) (by rfl) tk0 (pa_cons (pv 0) (pa_cons pe_int pa_nil))) pe_int (nomark _)) (pe_cal C__law_sides hr (by decide) (by rfl) tk0 (pa_cons (pv 0) (pa_cons (pv 3) pa_nil))) (pe_lst (pa_cons (pe_lst pa_nil) (pa_cons (pe_lst pa_nil) pa_nil)))))
  (pss_one (ps_expr (pe_bm PySem.F.plainAttrs_list PySem.F.slot_list_append PySem.F.type_list_append mt_append (pv 5) (pa_cons (pe_tup (pa_cons (pv 7) (pa_cons (pv 9) (pa_cons (pv 8) (pa_cons (pv 10) (pa_cons (pe_ix (ix_A (hr).units) (pv 11) pe_int (fun _ _ => rfl)) (pa_cons (pe_ix (ix_A (hr).units) (pv 11) pe_int (fun _ _ => rfl)) pa_nil))))))) pa_nil))))))))))
  (pss_one (ps_ret (pv 5)))))
theorem d__law_plan (T : Tx K mg) (C_Plan_init : CalI P w K mg base 6 "Plan" ["self", "helpers", "last", "mishaps", "courses", "decisions", "rules", "sights", "letters"] (c_Plan_init K))  {f : Addr} {cdv : Value} {A : Around} {outer : List Env} {s : Shared} {H : Hp} {E : XK} (hr : Room (7) (A.deeper (envOfC "_law_plan" (defScope s__law_plan) s.heap.objs.size f cdv))) :
    PSs (cxOf (L2.CX P w) P w K mg base ["world"] "_law_plan" (defScope s__law_plan) f cdv A outer s H E) (defBody s__law_plan) (r__law_plan K (fun cls d _ H => E cls d H)) :=
  have tk0 := takes_of (X := cxOf (L2.CX P w) P w K mg base ["world"] "_law_plan" (defScope s__law_plan) f cdv A outer s H E) (E := E) rfl rfl rfl rfl
  (pss_one (ps_ret (pe_calI C_Plan_init hr (by decide) (by rfl) tk0 (pa_cons (pe_ix (ix_A (hr).units) (pv 0) pe_int (fun _ _ => rfl)) (pa_cons (pe_ix (ix_A (hr).units) (pv 0) pe_int (fun _ _ => rfl)) (pa_cons (pe_ix (ix_A (hr).units) (pv 0) pe_int (fun _ _ => rfl)) (pa_cons (pe_ix (ix_A (hr).units) (pv 0) pe_int (fun _ _ => rfl)) (pa_cons (pe_ix (ix_A (hr).units) (pv 0) pe_int (fun _ _ => rfl)) (pa_cons (pe_ix (ix_A (hr).units) (pv 0) pe_int (fun _ _ => rfl)) (pa_cons (pe_ix (ix_A (hr).units) (pv 0) pe_int (fun _ _ => rfl)) (pa_cons (pe_ix (ix_A (hr).units) (pv 0) pe_int (fun _ _ => rfl)) pa_nil)))))))))))
theorem d__law_matches (T : Tx K mg) {n0 : Nat} {C0 : Con} (C__law_matches : Cal P w K mg base (0 + n0) "_law_matches" ["told", "due"] C0)  {f : Addr} {cdv : Value} {A : Around} {outer : List Env} {s : Shared} {H : Hp} {E : XK} (hr : Room (0 + n0) (A.deeper (envOfC "_law_matches" (defScope s__law_matches) s.heap.objs.size f cdv))) :
    PSs (cxOf (L2.CX P w) P w K mg base ["told", "due", "at"] "_law_matches" (defScope s__law_matches) f cdv A outer s H E) (defBody s__law_matches) (r__law_matches C0 K (fun cls d _ H => E cls d H)) :=
  have tk0 := takes_of (X := cxOf (L2.CX P w) P w K mg base ["told", "due", "at"] "_law_matches" (defScope s__law_matches) f cdv A outer s H E) (E := E) rfl rfl rfl rfl
  (pss_cons (ps_if (PW.pt (pw_or (pt_cmpR op_isA (pv 1) pe_non (nomark _)) (pw_or1 (pt_cmpR op_isA (pv 0) pe_non (nomark _))))) (pss_one (ps_ret (pe_and (pe_cmpR op_isA (pv 1) pe_non (nomark _)) (pe_one (pe_cmpR op_isA (pv 0) pe_non (nomark _)))))) pss_nil)
  (pss_cons (ps_if (PW.pt (pw_or (pt_val (pe_callB call_isi (by rfl) T.b_isinstance (by decide +kernel) (pa_cons (pv 1) (pa_cons (pe_bltn (by rfl) T.b_bool (by decide +kernel) rfl) pa_nil)))) (pw_or1 (pt_val (pe_callB call_isi (by rfl) T.b_isinstance (by decide +kernel) (pa_cons (pv 0) (pa_cons (pe_bltn (by rfl) T.b_bool (by decide +kernel) rfl) pa_nil))))))) (pss_one (ps_ret (pe_and (pe_callB call_isi (by rfl) T.b_isinstance (by decide +kernel) (pa_cons (pv 1) (pa_cons (pe_bltn (by rfl) T.b_bool (by decide +kernel) rfl) pa_nil))) (pe_and (pe_callB call_isi (by rfl) T.b_isinstance (by decide +kernel) (pa_cons (pv 0) (pa_cons (pe_bltn (by rfl) T.b_bool (by decide +kernel) rfl) pa_nil))) (pe_one (pe_cmpR (op_eqP (hr).units) (pv 0) (pv 1) (nomark _))))))) pss_nil)
  (pss_cons (ps_if (pt_val (pe_callB call_isi (by rfl) T.b_isinstance (by decide +kernel) (pa_cons (pv 1) (pa_cons (pe_bltn (by rfl) T.b_int (by decide +kernel) rfl) pa_nil)))) (pss_one (ps_ret (pe_and (pe_callB call_isi (by rfl) T.b_isinstance (by decide +kernel) (pa_cons (pv 0) (pa_cons (pe_bltn (by rfl) T.b_int (by decide +kernel) rfl) pa_nil))) (pe_one (pe_cmpR (op_eqP (hr).units) (pv 0) (pv 1) (nomark _)))))) pss_nil)
  (pss_cons (ps_if (pt_val (pe_callB call_isi (by rfl) T.b_isinstance (by decide +kernel) (pa_cons (pv 1) (pa_cons (pe_bltn (by rfl) T.b_str (by decide +kernel) rfl) pa_nil)))) (pss_one (ps_ret (pe_and (pe_callB call_isi (by rfl) T.b_isinstance (by decide +kernel) (pa_cons (pv 0) (pa_cons (pe_bltn (by rfl) T.b_str (by decide +kernel) rfl) pa_nil))) (pe_one (pe_cmpR (op_eqP (hr).units) (pv 0) (pv 1) (nomark _)))))) pss_nil)
  (pss_cons (ps_if (PW.pt (pw_and (pt_val (pe_callB call_isi (by rfl) T.b_isinstance (by decide +kernel) (pa_cons (pv 1) (pa_cons (pe_bltn (by rfl) T.b_tuple (by decide +kernel) rfl) pa_nil)))) (pw_and1 (pt_not (pt_val (pe_callB call_isi (by rfl) T.b_isinstance (by decide +kernel) (pa_cons (pv 0) (pa_cons (pe_bltn (by rfl) T.b_tuple (by decide +kernel) rfl) pa_nil)))))))) (pss_one (ps_ret pe_bl)) pss_nil)
  (pss_cons (ps_if (PW.pt (pw_and (pt_val (pe_callB call_isi (by rfl) T.b_isinstance (by decide +kernel) (pa_cons (pv 1) (pa_cons (pe_bltn (by rfl) T.b_list (by decide +kernel) rfl) pa_nil)))) (pw_and1 (pt_not (pt_val (pe_callB call_isi (by rfl) T.b_isinstance (by decide +kernel) (pa_cons (pv 0) (pa_cons (pe_bltn (by rfl) T.b_list (by decide +kernel) rfl) pa_nil)))))))) (pss_one (ps_ret pe_bl)) pss_nil)
  (pss_cons (ps_if (pt_cmpR (op_neP (hr).units) (pe_callB cr_lenA (by rfl) T.b_len (by decide +kernel) (pa_cons (pv 0) pa_nil)) (pe_callB cr_lenA (by rfl) T.b_len (by decide +kernel) (pa_cons (pv 1) pa_nil)) (nomark _)) (pss_one (ps_ret pe_bl)) pss_nil)
  (pss_cons (ps_for (passes_of rfl) rfl (pi_range1 (by rfl) T.b_range (pa_cons (pe_callB cr_lenA (by rfl) T.b_len (by decide +kernel) (pa_cons (pv 1) pa_nil)) pa_nil)) (pg_name (i := 2) sc__law_matches.nd rfl (.inl rfl)) (pss_one (ps_if (pt_not (pt_val (pe_cal C__law_matches hr (Nat.le_refl _) (by rfl) tk0 (pa_cons (pe_ix (ix_A (hr).units) (pv 0) (pv 2) (fun _ _ => rfl)) (pa_cons (pe_ix (ix_A (hr).units) (pv 1) (pv 2) (fun _ _ => rfl)) pa_nil))))) (pss_one (ps_ret pe_bl)) pss_nil)))
  (pss_one (ps_ret pe_bl))))))))))
theorem d__law_own_spread (T : Tx K mg)   {f : Addr} {cdv : Value} {A : Around} {outer : List Env} {s : Shared} {H : Hp} {E : XK} (hr : Room (0) (A.deeper (envOfC "_law_own_spread" (defScope s__law_own_spread) s.heap.objs.size f cdv))) :
    PSs (cxOf (L2.CX P w) P w K mg base ["world", "starts", "knowing", "helper", "moment", "turn", "letter", "since"] "_law_own_spread" (defScope s__law_own_spread) f cdv A outer s H E) (defBody s__law_own_spread) (r__law_own_spread K (fun cls d _ H => E cls d H)) :=
  have tk0 := takes_of (X := cxOf (L2.CX P w) P w K mg base ["world", "starts", "knowing", "helper", "moment", "turn", "letter", "since"] "_law_own_spread" (defScope s__law_own_spread) f cdv A outer s H E) (E := E) rfl rfl rfl rfl
  (pss_cons (ps_setLc (i := 2) (own := [("helper", 3)]) (g := (gName 3)) (tt := tYes) (te := (tC .non)) (by rfl) sc__law_own_spread.nd rfl rfl (sw_true rfl rfl rfl (by decide +kernel)) (pi_range1 (by rfl) T.b_range (pa_cons (pe_ix (ix_A (hr).units) (pv 0) pe_int (fun _ _ => rfl)) pa_nil)) (blkOk_by (N := ["world", "starts", "knowing", "helper", "moment", "turn", "letter", "since"]) (sc := defScope s__law_own_spread) (by decide +kernel)) (fun _ _ _ _ _ => (pg_name (i := 3) sc__law_own_spread.nd rfl (.inl rfl))) (fun _ _ _ _ _ => pts_nil) (fun _ _ _ _ _ => pe_non))
  (pss_cons (ps_for (passes_of rfl) rfl (pi_sq (pv 1)) (pg_un (by rfl) (pgs_cons (pg_name (i := 3) sc__law_own_spread.nd rfl (.inl rfl)) (pgs_cons (pg_name (i := 4) sc__law_own_spread.nd rfl (.inl rfl)) pgs_nil))) (pss_one (ps_if (PW.pt (pw_or (pt_cmpR op_isA (pe_ix (ix_A (hr).units) (pv 2) (pe_op op_subA (pv 3) pe_int) (fun _ _ => rfl)) pe_non (nomark _)) (pw_or1 (pt_cmpR op_ltA (pv 4) (pe_ix (ix_A (hr).units) (pv 2) (pe_op op_subA (pv 3) pe_int) (fun _ _ => rfl)) (nomark _))))) (pss_one (ps_asg (pv 4) (pg_sub (pv 2) (pe_op op_subA (pv 3) pe_int) set_list))) pss_nil)))
  (pss_cons (ps_for (passes_of rfl) rfl (pi_range1 (by rfl) T.b_range (pa_cons (pe_ix (ix_A (hr).units) (pv 0) pe_int (fun _ _ => rfl)) pa_nil)) (pg_name (i := 5) sc__law_own_spread.nd rfl (.inl rfl)) (pss_one (ps_for (passes_of rfl) rfl (pi_sq (pe_ix (ix_A (hr).units) (pv 0) pe_int (fun _ _ => rfl))) (pg_name (i := 6) sc__law_own_spread.nd rfl (.inl rfl)) (pss_cons (ps_set (i := 7) sc__law_own_spread.nd rfl (.inl rfl) (pe_ix (ix_A (hr).units) (pv 2) (pe_op op_subA (pe_ix (ix_A (hr).units) (pv 6) pe_int (fun _ _ => rfl)) pe_int) (fun _ _ => rfl)))
  (pss_one (ps_if (PW.pt (pw_and (pt_cmpR (op_eqP (hr).units) (pe_ix (ix_A (hr).units) (pv 6) pe_int (fun _ _ => rfl)) (pe_lst pa_nil) (nomark _)) (pw_and (pt_cmpR op_isNotA (pv 7) pe_non (nomark _)) (pw_and1 (pt_cmpR op_leA (pv 7) (pe_ix (ix_A (hr).units) (pv 6) pe_int (fun _ _ => rfl)) (nomark _)))))) (pss_one (ps_if (PW.pt (pw_or (pt_cmpR op_isA (pe_ix (ix_A (hr).units) (pv 2) (pe_op op_subA (pe_ix (ix_A (hr).units) (pv 6) pe_int (fun _ _ => rfl)) pe_int) (fun _ _ => rfl)) pe_non (nomark _)) (pw_or1 (pt_cmpR op_ltA (pe_ix (ix_A (hr).units) (pv 6) pe_int (fun _ _ => rfl)) (pe_ix (ix_A (hr).units) (pv 2) (pe_op op_subA (pe_ix (ix_A (hr).units) (pv 6) pe_int (fun _ _ => rfl)) pe_int) (fun _ _ => rfl)) (nomark _))))) (pss_one (ps_asg (pe_ix (ix_A (hr).units) (pv 6) pe_int (fun _ _ => rfl)) (pg_sub (pv 2) (pe_op op_subA (pe_ix (ix_A (hr).units) (pv 6) pe_int (fun _ _ => rfl)) pe_int) set_list))) pss_nil)) pss_nil))))))
  (pss_one (ps_ret (pv 2))))))
theorem d__law_own_takers (T : Tx K mg)   {f : Addr} {cdv : Value} {A : Around} {outer : List Env} {s : Shared} {H : Hp} {E : XK} (hr : Room (0) (A.deeper (envOfC "_law_own_takers" (defScope s__law_own_takers) s.heap.objs.size f cdv))) :
    PSs (cxOf (L2.CX P w) P w K mg base ["world", "knowing", "names", "row"] "_law_own_takers" (defScope s__law_own_takers) f cdv A outer s H E) (defBody s__law_own_takers) (r__law_own_takers K (fun cls d _ H => E cls d H)) :=
  have tk0 := takes_of (X := cxOf (L2.CX P w) P w K mg base ["world", "knowing", "names", "row"] "_law_own_takers" (defScope s__law_own_takers) f cdv A outer s H E) (E := E) rfl rfl rfl rfl
  (pss_cons (ps_set (i := 2) sc__law_own_takers.nd rfl (.inl rfl) (pe_lst pa_nil))
  (pss_cons (ps_for (passes_of rfl) rfl (pi_sq (pe_ix (ix_A (hr).units) (pv 0) pe_int (fun _ _ => rfl))) (pg_name (i := 3) sc__law_own_takers.nd rfl (.inl rfl)) (pss_one (ps_if (PW.pt (pw_and (pt_cmpR op_isNotA (pe_ix (ix_A (hr).units) (pv 1) (pe_op op_subA (pe_ix (ix_A (hr).units) (pv 3) pe_int (fun _ _ => rfl)) pe_int) (fun _ _ => rfl)) pe_non (nomark _)) (pw_and1 (pt_cmpR op_leA (pe_ix (ix_A (hr).units) (pv 1) (pe_op op_subA (pe_ix (ix_A (hr).units) (pv 3) pe_int (fun _ _ => rfl)) pe_int) (fun _ _ => rfl)) (pe_ix (ix_A (hr).units) (pv 3) pe_int (fun _ _ => rfl)) (nomark _))))) (pss_one (ps_expr (pe_bm PySem.F.plainAttrs_list PySem.F.slot_list_append PySem.F.type_list_append mt_append (pv 2) (pa_cons (pe_ix (ix_A (hr).units) (pv 3) pe_int (fun _ _ => rfl)) pa_nil)))) pss_nil)))
  (pss_one (ps_ret (pv 2)))))
theorem d__law_word_world (T : Tx K mg) (C__law_draw : Cal P w K mg base 1 "_law_draw" ["purse", "many"] (c__law_draw K)) (C__law_letters : Cal P w K mg base 3 "_law_letters" ["purse", "helpers", "last", "mishaps", "many"] (c__law_letters K)) (C__law_words : Cal P w K mg base 3 "_law_words" ["purse", "many"] (c__law_words K))  {f : Addr} {cdv : Value} {A : Around} {outer : List Env} {s : Shared} {H : Hp} {E : XK} (hr : Room (3) (A.deeper (envOfC "_law_word_world" (defScope s__law_word_world) s.heap.objs.size f cdv))) :
    PSs (cxOf (L2.CX P w) P w K mg base ["purse", "helpers", "last", "mishaps", "rows", "name", "letters", "sights"] "_law_word_world" (defScope s__law_word_world) f cdv A outer s H E) (defBody s__law_word_world) (r__law_word_world K (fun cls d _ H => E cls d H)) :=
  have tk0 := takes_of (X := cxOf (L2.CX P w) P w K mg base ["purse", "helpers", "last", "mishaps", "rows", "name", "letters", "sights"] "_law_word_world" (defScope s__law_word_world) f cdv A outer s H E) (E := E) rfl rfl rfl rfl
  (pss_cons (ps_set (i := 1) sc__law_word_world.nd rfl (.inl rfl) (pe_op op_addA pe_int (pe_cal C__law_draw hr (by decide) (by rfl) tk0 (pa_cons (pv 0) (pa_cons pe_int pa_nil)))))
  (pss_cons (ps_set (i := 2) sc__law_word_world.nd rfl (.inl rfl) (pe_op op_addA pe_int (pe_cal C__law_draw hr (by decide) (by rfl) tk0 (pa_cons (pv 0) (pa_cons pe_int pa_nil)))))
  (pss_cons (ps_set (i := 3) sc__law_word_world.nd rfl (.inl rfl) (pe_cal C__law_words hr (by decide) (by rfl) tk0 (pa_cons (pv 0) (pa_cons (pe_op op_addA pe_int (pe_cal C__law_draw hr (by decide) (by rfl) tk0 (pa_cons (pv 0) (pa_cons pe_int pa_nil)))) pa_nil))))
  (pss_cons (ps_set (i := 4) sc__law_word_world.nd rfl (.inl rfl) (pe_lst pa_nil))
  (pss_cons (ps_for (passes_of rfl) rfl (pi_sq (pe_cal C__law_words hr (by decide) (by rfl) tk0 (pa_cons (pv 0) (pa_cons (pe_op op_addA pe_int (pe_cal C__law_draw hr (by decide) (by rfl) tk0 (pa_cons (pv 0) (pa_cons pe_int pa_nil)))) pa_nil)))) (pg_name (i := 5) sc__law_word_world.nd rfl (.inl rfl)) (pss_one (ps_expr (pe_bm PySem.F.plainAttrs_list PySem.F.slot_list_append PySem.F.type_list_append mt_append (pv 4) (pa_cons (pe_tup (pa_cons (pv 5) (pa_cons (pe_op op_addA pe_int (pe_cal C__law_draw hr (by decide) (by rfl) tk0 (pa_cons (pv 0) (pa_cons (pv 1) pa_nil)))) (pa_cons (pe_cal C__law_draw hr (by decide) (by rfl) tk0 (pa_cons (pv 0) (pa_cons (pe_op op_addA (pv 2) pe_int) pa_nil))) (pa_cons pe_int (pa_cons pe_int pa_nil)))))) pa_nil)))))
  (pss_cons (ps_set (i := 6) sc__law_word_world.nd rfl (.inl rfl) (pe_cal C__law_letters hr (by decide) (by rfl) tk0 (pa_cons (pv 0) (pa_cons (pv 1) (pa_cons (pv 2) (pa_cons (pv 3) (pa_cons (pe_op op_addA pe_int (pe_cal C__law_draw hr (by decide) (by rfl) tk0 (pa_cons (pv 0) (pa_cons pe_int pa_nil)))) pa_nil)))))))
  (pss_cons (ps_set (i := 7) sc__law_word_world.nd rfl (.inl rfl) (pe_ifExp (PW.pt (pw_and (pt_cmpR (op_eqP (hr).units) (pe_ix (ix_A (hr).units) (pe_ix (ix_A (hr).units) (pv 4) pe_int (fun _ _ => rfl)) pe_int (fun _ _ => rfl)) pe_int (nomark _)) (pw_and1 (pt_cmpR op_ltA (pe_ix (ix_A (hr).units) (pe_ix (ix_A (hr).units) (pv 4) pe_int (fun _ _ => rfl)) pe_int (fun _ _ => rfl)) (pv 2) (nomark _))))) (pe_lst (pa_cons (pe_tup (pa_cons (pe_ix (ix_A (hr).units) (pv 3) pe_int (fun _ _ => rfl)) (pa_cons pe_int (pa_cons (pv 2) (pa_cons (pe_ix (ix_A (hr).units) (pe_ix (ix_A (hr).units) (pv 4) pe_int (fun _ _ => rfl)) pe_int (fun _ _ => rfl)) (pa_cons pe_int pa_nil)))))) pa_nil)) (pe_lst pa_nil)))
  (pss_one (ps_ret (pe_lst (pa_cons (pv 1) (pa_cons (pv 2) (pa_cons (pv 3) (pa_cons (pe_lst (pa_cons (pe_lst pa_nil) (pa_cons (pe_lst (pa_cons (pe_ix (ix_A (hr).units) (pv 3) pe_int (fun _ _ => rfl)) pa_nil)) pa_nil))) (pa_cons (pv 4) (pa_cons (pe_lst pa_nil) (pa_cons (pv 7) (pa_cons (pv 6) pa_nil))))))))))))))))))
theorem d__law_open_letter (T : Tx K mg)   {f : Addr} {cdv : Value} {A : Around} {outer : List Env} {s : Shared} {H : Hp} {E : XK} (hr : Room (0) (A.deeper (envOfC "_law_open_letter" (defScope s__law_open_letter) s.heap.objs.size f cdv))) :
    PSs (cxOf (L2.CX P w) P w K mg base ["world", "knowing", "k", "sender", "sent", "receiver", "arrives", "yes", "no", "since", "then"] "_law_open_letter" (defScope s__law_open_letter) f cdv A outer s H E) (defBody s__law_open_letter) (r__law_open_letter K (fun cls d _ H => E cls d H)) :=
  have tk0 := takes_of (X := cxOf (L2.CX P w) P w K mg base ["world", "knowing", "k", "sender", "sent", "receiver", "arrives", "yes", "no", "since", "then"] "_law_open_letter" (defScope s__law_open_letter) f cdv A outer s H E) (E := E) rfl rfl rfl rfl
  (pss_cons (ps_for (passes_of rfl) rfl (pi_range1 (by rfl) T.b_range (pa_cons (pe_callB cr_lenA (by rfl) T.b_len (by decide +kernel) (pa_cons (pe_ix (ix_A (hr).units) (pv 0) pe_int (fun _ _ => rfl)) pa_nil)) pa_nil)) (pg_name (i := 2) sc__law_open_letter.nd rfl (.inl rfl)) (pss_cons (ps_asg (pe_ix (ix_A (hr).units) (pe_ix (ix_A (hr).units) (pv 0) pe_int (fun _ _ => rfl)) (pv 2) (fun _ _ => rfl)) (pg_un (by rfl) (pgs_cons (pg_name (i := 3) sc__law_open_letter.nd rfl (.inl rfl)) (pgs_cons (pg_name (i := 4) sc__law_open_letter.nd rfl (.inl rfl)) (pgs_cons (pg_name (i := 5) sc__law_open_letter.nd rfl (.inl rfl)) (pgs_cons (pg_name (i := 6) sc__law_open_letter.nd rfl (.inl rfl)) (pgs_cons (pg_name (i := 7) sc__law_open_letter.nd rfl (.inl rfl)) (pgs_cons (pg_name (i := 8) sc__law_open_letter.nd rfl (.inl rfl)) pgs_nil))))))))
  (pss_cons (ps_par (i := 9) (j := 10) (by rfl) sc__law_open_letter.nd rfl rfl (by decide) rfl rfl (pa_cons (pe_ix (ix_A (hr).units) (pv 1) (pe_op op_subA (pv 3) pe_int) (fun _ _ => rfl)) (pa_cons (pe_ix (ix_A (hr).units) (pv 1) (pe_op op_subA (pv 5) pe_int) (fun _ _ => rfl)) pa_nil)) (by rfl))
  (pss_one (ps_if (PW.pt (pw_and (pt_cmpR (op_eqP (hr).units) (pv 7) (pe_lst pa_nil) (nomark _)) (pw_and (pt_cmpR op_isNotA (pv 9) pe_non (nomark _)) (pw_and (pt_cmpR op_leA (pv 9) (pv 4) (nomark _)) (pw_and1 (PW.pt (pw_or (pt_cmpR op_isA (pv 10) pe_non (nomark _)) (pw_or1 (pt_cmpR op_gtA (pv 10) (pv 6) (nomark _)))))))))) (pss_one (ps_ret (pv 2))) pss_nil)))))
  (pss_one (ps_ret pe_non)))
theorem d__law_every_list (T : Tx K mg)   {f : Addr} {cdv : Value} {A : Around} {outer : List Env} {s : Shared} {H : Hp} {E : XK} (hr : Room (0) (A.deeper (envOfC "_law_every_list" (defScope s__law_every_list) s.heap.objs.size f cdv))) :
    PSs (cxOf (L2.CX P w) P w K mg base ["world", "lists", "helper", "longer", "one", "item"] "_law_every_list" (defScope s__law_every_list) f cdv A outer s H E) (defBody s__law_every_list) (r__law_every_list K (fun cls d _ H => E cls d H)) :=
  have tk0 := takes_of (X := cxOf (L2.CX P w) P w K mg base ["world", "lists", "helper", "longer", "one", "item"] "_law_every_list" (defScope s__law_every_list) f cdv A outer s H E) (E := E) rfl rfl rfl rfl
  (pss_cons (ps_set (i := 1) sc__law_every_list.nd rfl (.inl rfl) (pe_lst (pa_cons (pe_lst pa_nil) pa_nil)))
  (pss_cons (ps_for (passes_of rfl) rfl (pi_range1 (by rfl) T.b_range (pa_cons (pe_ix (ix_A (hr).units) (pv 0) pe_int (fun _ _ => rfl)) pa_nil)) (pg_name (i := 2) sc__law_every_list.nd rfl (.inl rfl)) (pss_cons (ps_set (i := 3) sc__law_every_list.nd rfl (.inl rfl) (pe_lst pa_nil))
  (pss_cons (ps_for (passes_of rfl) rfl (pi_sq (pv 1)) (pg_name (i := 4) sc__law_every_list.nd rfl (.inr rfl)) (pss_one (ps_set (i := 3) sc__law_every_list.nd rfl (.inl rfl) (pe_op op_addA (pv 3) (pe_lc (own := [("item", 5)]) (g := (gName 5)) (tt := tYes) (te := (tOp rAddA (tVar 4) (tLst (tCons (tVar 5) tNil)))) (by rfl) sc__law_every_list.nd (pi_sq (pe_op op_addA (pe_lst (pa_cons pe_non pa_nil)) (pe_listRg rfl (by rfl) T.b_list (prg_1 (by rfl) T.b_range (pe_op op_addA (pe_ix (ix_A (hr).units) (pv 0) pe_int (fun _ _ => rfl)) pe_int))))) (blkOk_by (N := ["world", "lists", "helper", "longer", "one", "item"]) (sc := defScope s__law_every_list) (by decide +kernel)) (fun _ _ _ _ _ => (pg_name (i := 5) sc__law_every_list.nd rfl (.inl rfl))) (fun _ _ _ _ _ => pts_nil) (fun _ _ _ _ _ => (pe_op op_addA (pv 4) (pe_lst (pa_cons (pv 5) pa_nil)))))))))
  (pss_one (ps_set (i := 1) sc__law_every_list.nd rfl (.inl rfl) (pv 3))))))
  (pss_one (ps_ret (pv 1)))))
theorem d__law_least_closed (T : Tx K mg)   {f : Addr} {cdv : Value} {A : Around} {outer : List Env} {s : Shared} {H : Hp} {E : XK} (hr : Room (0) (A.deeper (envOfC "_law_least_closed" (defScope s__law_least_closed) s.heap.objs.size f cdv))) :
    PSs (cxOf (L2.CX P w) P w K mg base ["world", "closed", "starts", "found", "knowing", "holds", "helper", "moment", "at"] "_law_least_closed" (defScope s__law_least_closed) f cdv A outer s H E) (defBody s__law_least_closed) (r__law_least_closed K (fun cls d _ H => E cls d H)) :=
  have tk0 := takes_of (X := cxOf (L2.CX P w) P w K mg base ["world", "closed", "starts", "found", "knowing", "holds", "helper", "moment", "at"] "_law_least_closed" (defScope s__law_least_closed) f cdv A outer s H E) (E := E) rfl rfl rfl rfl
  (pss_cons (ps_setLc (i := 3) (own := [("helper", 6)]) (g := (gName 6)) (tt := tYes) (te := (tC (.int 0))) (by rfl) sc__law_least_closed.nd rfl rfl (sw_true rfl rfl rfl (by decide +kernel)) (pi_range1 (by rfl) T.b_range (pa_cons (pe_ix (ix_A (hr).units) (pv 0) pe_int (fun _ _ => rfl)) pa_nil)) (blkOk_by (N := ["world", "closed", "starts", "found", "knowing", "holds", "helper", "moment", "at"]) (sc := defScope s__law_least_closed) (by decide +kernel)) (fun _ _ _ _ _ => (pg_name (i := 6) sc__law_least_closed.nd rfl (.inl rfl))) (fun _ _ _ _ _ => pts_nil) (fun _ _ _ _ _ => pe_int))
  (pss_cons (ps_for (passes_of rfl) rfl (pi_sq (pv 1)) (pg_name (i := 4) sc__law_least_closed.nd rfl (.inl rfl)) (pss_cons (ps_set (i := 5) sc__law_least_closed.nd rfl (.inl rfl) pe_bl)
  (pss_cons (ps_for (passes_of rfl) rfl (pi_sq (pv 2)) (pg_un (by rfl) (pgs_cons (pg_name (i := 6) sc__law_least_closed.nd rfl (.inl rfl)) (pgs_cons (pg_name (i := 7) sc__law_least_closed.nd rfl (.inl rfl)) pgs_nil))) (pss_one (ps_if (PW.pt (pw_or (pt_cmpR op_isA (pe_ix (ix_A (hr).units) (pv 4) (pe_op op_subA (pv 6) pe_int) (fun _ _ => rfl)) pe_non (nomark _)) (pw_or1 (pt_cmpR op_gtA (pe_ix (ix_A (hr).units) (pv 4) (pe_op op_subA (pv 6) pe_int) (fun _ _ => rfl)) (pv 7) (nomark _))))) (pss_one (ps_set (i := 5) sc__law_least_closed.nd rfl (.inl rfl) pe_bl)) pss_nil)))
  (pss_one (ps_if (pt_val (pv 5)) (pss_one (ps_for (passes_of rfl) rfl (pi_range1 (by rfl) T.b_range (pa_cons (pe_ix (ix_A (hr).units) (pv 0) pe_int (fun _ _ => rfl)) pa_nil)) (pg_name (i := 8) sc__law_least_closed.nd rfl (.inl rfl)) (pss_one (ps_if (PW.pt (pw_and (pt_cmpR op_isNotA (pe_ix (ix_A (hr).units) (pv 3) (pv 8) (fun _ _ => rfl)) pe_non (nomark _)) (pw_and1 (PW.pt (pw_or (pt_cmpR op_isA (pe_ix (ix_A (hr).units) (pv 4) (pv 8) (fun _ _ => rfl)) pe_non (nomark _)) (pw_or1 (pt_cmpR op_gtA (pe_ix (ix_A (hr).units) (pv 4) (pv 8) (fun _ _ => rfl)) (pe_ix (ix_A (hr).units) (pv 3) (pv 8) (fun _ _ => rfl)) (nomark _)))))))) (pss_one (ps_asg (pe_ix (ix_A (hr).units) (pv 4) (pv 8) (fun _ _ => rfl)) (pg_sub (pv 3) (pv 8) set_list))) pss_nil)))) pss_nil)))))
  (pss_one (ps_ret (pv 3)))))
theorem d__law_spread_told (T : Tx K mg) (C_spread_of : Cal P w K mg base 4 "spread_of" ["plan", "starts"] (c_spread_of K))  {f : Addr} {cdv : Value} {A : Around} {outer : List Env} {s : Shared} {H : Hp} {E : XK} (hr : Room (4) (A.deeper (envOfC "_law_spread_told" (defScope s__law_spread_told) s.heap.objs.size f cdv))) :
    PSs (cxOf (L2.CX P w) P w K mg base ["plan", "starts", "told", "e"] "_law_spread_told" (defScope s__law_spread_told) f cdv A outer s H E) (defBody s__law_spread_told) (r__law_spread_told K (fun cls d _ H => E cls d H)) :=
  have tk0 := takes_of (X := cxOf (L2.CX P w) P w K mg base ["plan", "starts", "told", "e"] "_law_spread_told" (defScope s__law_spread_told) f cdv A outer s H E) (E := E) rfl rfl rfl rfl
  (pss_cons (ps_tryA (i := 3) (tb := fun W => (tAsg (tCallS (SpC (c_spread_of K)) (WE W) (tCons (tVar 0) (tCons (tVar 1) tNil))) (gName 2))) (l := ((Value.ref (He.ga K "TooMany"), fun a cls d => (tRet (tTup (tCons (tC (.str "many")) (tCons (tXf a cls d (He.ga K "TooMany") "what" (tVar 3)) tNil))))) :: ((Value.ref (He.ga K "BadMoment"), fun a cls d => (tRet (tTup (tCons (tC (.str "moment")) (tCons (tXf a cls d (He.ga K "BadMoment") "moment" (tVar 3)) tNil))))) :: []))) rfl rfl sc__law_spread_told.nd rfl rfl tk0 (fun W pn xe tk po => (pss_one (ps_set (i := 2) sc__law_spread_told.nd rfl (.inl rfl) (pe_cal C_spread_of hr (by decide) (by rfl) tk (pa_cons (pv 0) (pa_cons (pv 1) pa_nil)))))) (ClsOk.cons ⟨by rfl, by decide, .inl T.x_TooMany.gC⟩ (fun a oe cls d pn hz hf => (pss_one (ps_ret (pe_tup (pa_cons pe_str (pa_cons (pe_xf T.x_TooMany.xf (T.x_TooMany.no _ (by decide)) hz hf (pv 3)) pa_nil)))))) (ClsOk.cons ⟨by rfl, by decide, .inl T.x_BadMoment.gC⟩ (fun a oe cls d pn hz hf => (pss_one (ps_ret (pe_tup (pa_cons pe_str (pa_cons (pe_xf T.x_BadMoment.xf (T.x_BadMoment.no _ (by decide)) hz hf (pv 3)) pa_nil)))))) ClsOk.nil)))
  (pss_one (ps_ret (pe_tup (pa_cons pe_str (pa_cons (pv 2) pa_nil))))))
theorem d__law_list_told (T : Tx K mg) (C_judge_knowing : Cal P w K mg base 5 "judge_knowing" ["plan", "knowing"] (c_judge_knowing K)) (C_takers_of : Cal P w K mg base 5 "takers_of" ["plan", "knowing"] (c_takers_of K))  {f : Addr} {cdv : Value} {A : Around} {outer : List Env} {s : Shared} {H : Hp} {E : XK} (hr : Room (5) (A.deeper (envOfC "_law_list_told" (defScope s__law_list_told) s.heap.objs.size f cdv))) :
    PSs (cxOf (L2.CX P w) P w K mg base ["plan", "kind", "knowing", "told", "e"] "_law_list_told" (defScope s__law_list_told) f cdv A outer s H E) (defBody s__law_list_told) (r__law_list_told K (fun cls d _ H => E cls d H)) :=
  have tk0 := takes_of (X := cxOf (L2.CX P w) P w K mg base ["plan", "kind", "knowing", "told", "e"] "_law_list_told" (defScope s__law_list_told) f cdv A outer s H E) (E := E) rfl rfl rfl rfl
  (pss_cons (ps_tryA (i := 4) (tb := fun W => (tAsg (tIf (tTest (tOp (rEqP K) (tVar 1) (tC (.int 0)))) (tCallS (SpC (c_judge_knowing K)) (WE W) (tCons (tVar 0) (tCons (tVar 2) tNil))) (tCallS (SpC (c_takers_of K)) (WE W) (tCons (tVar 0) (tCons (tVar 2) tNil)))) (gName 3))) (l := ((Value.ref (He.ga K "BadMoment"), fun a cls d => (tRet (tTup (tCons (tC (.str "moment")) (tCons (tXf a cls d (He.ga K "BadMoment") "moment" (tVar 4)) tNil))))) :: [])) rfl rfl sc__law_list_told.nd rfl rfl tk0 (fun W pn xe tk po => (pss_one (ps_set (i := 3) sc__law_list_told.nd rfl (.inl rfl) (pe_ifExp (pt_cmpR (op_eqP (hr).units) (pv 1) pe_int (nomark _)) (pe_cal C_judge_knowing hr (by decide) (by rfl) tk (pa_cons (pv 0) (pa_cons (pv 2) pa_nil))) (pe_cal C_takers_of hr (by decide) (by rfl) tk (pa_cons (pv 0) (pa_cons (pv 2) pa_nil))))))) (ClsOk.cons ⟨by rfl, by decide, .inl T.x_BadMoment.gC⟩ (fun a oe cls d pn hz hf => (pss_one (ps_ret (pe_tup (pa_cons pe_str (pa_cons (pe_xf T.x_BadMoment.xf (T.x_BadMoment.no _ (by decide)) hz hf (pv 4)) pa_nil)))))) ClsOk.nil))
  (pss_one (ps_ret (pe_tup (pa_cons pe_str (pa_cons (pv 3) pa_nil))))))
theorem d__law_name_told (T : Tx K mg) (C_are_together : Cal P w K mg base 4 "are_together" ["plan", "one", "other"] (c_are_together K)) (C_cone_of : Cal P w K mg base 6 "cone_of" ["plan", "name"] (c_cone_of K))  {f : Addr} {cdv : Value} {A : Around} {outer : List Env} {s : Shared} {H : Hp} {E : XK} (hr : Room (6) (A.deeper (envOfC "_law_name_told" (defScope s__law_name_told) s.heap.objs.size f cdv))) :
    PSs (cxOf (L2.CX P w) P w K mg base ["plan", "kind", "one", "other", "told", "e"] "_law_name_told" (defScope s__law_name_told) f cdv A outer s H E) (defBody s__law_name_told) (r__law_name_told K (fun cls d _ H => E cls d H)) :=
  have tk0 := takes_of (X := cxOf (L2.CX P w) P w K mg base ["plan", "kind", "one", "other", "told", "e"] "_law_name_told" (defScope s__law_name_told) f cdv A outer s H E) (E := E) rfl rfl rfl rfl
  (pss_cons (ps_tryA (i := 5) (tb := fun W => (tAsg (tIf (tTest (tOp (rEqP K) (tVar 1) (tC (.int 0)))) (tCallS (SpC (c_cone_of K)) (WE W) (tCons (tVar 0) (tCons (tVar 2) tNil))) (tCallS (SpC (c_are_together K)) (WE W) (tCons (tVar 0) (tCons (tVar 2) (tCons (tVar 3) tNil))))) (gName 4))) (l := ((Value.ref (He.ga K "BadNames"), fun a cls d => (tRet (tTup (tCons (tC (.str "names")) (tCons (tXf a cls d (He.ga K "BadNames") "words" (tVar 5)) tNil))))) :: [])) rfl rfl sc__law_name_told.nd rfl rfl tk0 (fun W pn xe tk po => (pss_one (ps_set (i := 4) sc__law_name_told.nd rfl (.inl rfl) (pe_ifExp (pt_cmpR (op_eqP (hr).units) (pv 1) pe_int (nomark _)) (pe_cal C_cone_of hr (by decide) (by rfl) tk (pa_cons (pv 0) (pa_cons (pv 2) pa_nil))) (pe_cal C_are_together hr (by decide) (by rfl) tk (pa_cons (pv 0) (pa_cons (pv 2) (pa_cons (pv 3) pa_nil)))))))) (ClsOk.cons ⟨by rfl, by decide, .inl T.x_BadNames.gC⟩ (fun a oe cls d pn hz hf => (pss_one (ps_ret (pe_tup (pa_cons pe_str (pa_cons (pe_xf T.x_BadNames.xf (T.x_BadNames.no _ (by decide)) hz hf (pv 5)) pa_nil)))))) ClsOk.nil))
  (pss_one (ps_ret (pe_tup (pa_cons pe_str (pa_cons (pv 4) pa_nil))))))
theorem d__law_reach_told (T : Tx K mg) (C_reach_of : Cal P w K mg base 5 "reach_of" ["plan", "helper", "moment"] (c_reach_of K))  {f : Addr} {cdv : Value} {A : Around} {outer : List Env} {s : Shared} {H : Hp} {E : XK} (hr : Room (5) (A.deeper (envOfC "_law_reach_told" (defScope s__law_reach_told) s.heap.objs.size f cdv))) :
    PSs (cxOf (L2.CX P w) P w K mg base ["plan", "helper", "moment", "told", "e"] "_law_reach_told" (defScope s__law_reach_told) f cdv A outer s H E) (defBody s__law_reach_told) (r__law_reach_told K (fun cls d _ H => E cls d H)) :=
  have tk0 := takes_of (X := cxOf (L2.CX P w) P w K mg base ["plan", "helper", "moment", "told", "e"] "_law_reach_told" (defScope s__law_reach_told) f cdv A outer s H E) (E := E) rfl rfl rfl rfl
  (pss_cons (ps_tryA (i := 4) (tb := fun W => (tAsg (tCallS (SpC (c_reach_of K)) (WE W) (tCons (tVar 0) (tCons (tVar 1) (tCons (tVar 2) tNil)))) (gName 3))) (l := ((Value.ref (He.ga K "BadMoment"), fun a cls d => (tRet (tTup (tCons (tC (.str "moment")) (tCons (tXf a cls d (He.ga K "BadMoment") "moment" (tVar 4)) tNil))))) :: [])) rfl rfl sc__law_reach_told.nd rfl rfl tk0 (fun W pn xe tk po => (pss_one (ps_set (i := 3) sc__law_reach_told.nd rfl (.inl rfl) (pe_cal C_reach_of hr (by decide) (by rfl) tk (pa_cons (pv 0) (pa_cons (pv 1) (pa_cons (pv 2) pa_nil))))))) (ClsOk.cons ⟨by rfl, by decide, .inl T.x_BadMoment.gC⟩ (fun a oe cls d pn hz hf => (pss_one (ps_ret (pe_tup (pa_cons pe_str (pa_cons (pe_xf T.x_BadMoment.xf (T.x_BadMoment.no _ (by decide)) hz hf (pv 4)) pa_nil)))))) ClsOk.nil))
  (pss_one (ps_ret (pe_tup (pa_cons pe_str (pa_cons (pv 3) pa_nil))))))
theorem d__law_decisions_right (T : Tx K mg) (C__law_least_closed : Cal P w K mg base 1 "_law_least_closed" ["world", "closed", "starts"] (c__law_least_closed K)) (C__law_matches : Cal P w K mg base 4 "_law_matches" ["told", "due"] (c__law_matches K)) (C__law_own_takers : Cal P w K mg base 1 "_law_own_takers" ["world", "knowing"] (c__law_own_takers K)) (C_are_together : Cal P w K mg base 4 "are_together" ["plan", "one", "other"] (c_are_together K)) (C_cone_of : Cal P w K mg base 6 "cone_of" ["plan", "name"] (c_cone_of K)) (C_reach_of : Cal P w K mg base 5 "reach_of" ["plan", "helper", "moment"] (c_reach_of K))  {f : Addr} {cdv : Value} {A : Around} {outer : List Env} {s : Shared} {H : Hp} {E : XK} (hr : Room (6) (A.deeper (envOfC "_law_decisions_right" (defScope s__law_decisions_right) s.heap.objs.size f cdv))) :
    PSs (cxOf (L2.CX P w) P w K mg base ["plan", "world", "closed", "row", "due", "turn", "told", "names", "other"] "_law_decisions_right" (defScope s__law_decisions_right) f cdv A outer s H E) (defBody s__law_decisions_right) (r__law_decisions_right K (fun cls d _ H => E cls d H)) :=
  have tk0 := takes_of (X := cxOf (L2.CX P w) P w K mg base ["plan", "world", "closed", "row", "due", "turn", "told", "names", "other"] "_law_decisions_right" (defScope s__law_decisions_right) f cdv A outer s H E) (E := E) rfl rfl rfl rfl
  (pss_cons (ps_for (passes_of rfl) rfl (pi_sq (pe_ix (ix_A (hr).units) (pv 1) pe_int (fun _ _ => rfl))) (pg_name (i := 3) sc__law_decisions_right.nd rfl (.inl rfl)) (pss_cons (ps_set (i := 4) sc__law_decisions_right.nd rfl (.inl rfl) (pe_cal C__law_least_closed hr (by decide) (by rfl) tk0 (pa_cons (pv 1) (pa_cons (pv 2) (pa_cons (pe_lst (pa_cons (pe_tup (pa_cons (pe_ix (ix_A (hr).units) (pv 3) pe_int (fun _ _ => rfl)) (pa_cons (pe_ix (ix_A (hr).units) (pv 3) pe_int (fun _ _ => rfl)) pa_nil))) pa_nil)) pa_nil)))))
  (pss_cons (ps_for (passes_of rfl) rfl (pi_range1 (by rfl) T.b_range (pa_cons pe_int pa_nil)) (pg_name (i := 5) sc__law_decisions_right.nd rfl (.inl rfl)) (pss_cons (ps_set (i := 6) sc__law_decisions_right.nd rfl (.inl rfl) (pe_cal C_reach_of hr (by decide) (by rfl) tk0 (pa_cons (pv 0) (pa_cons (pe_ix (ix_A (hr).units) (pv 3) pe_int (fun _ _ => rfl)) (pa_cons (pe_ix (ix_A (hr).units) (pv 3) pe_int (fun _ _ => rfl)) pa_nil)))))
  (pss_cons (ps_if (pt_not (pt_val (pe_cal C__law_matches hr (by decide) (by rfl) tk0 (pa_cons (pv 6) (pa_cons (pv 4) pa_nil))))) (pss_one (ps_ret pe_bl)) pss_nil)
  (pss_one (ps_asg pe_int (pg_sub (pv 6) pe_int set_list))))))
  (pss_cons (ps_set (i := 7) sc__law_decisions_right.nd rfl (.inl rfl) (pe_cal C_cone_of hr (by decide) (by rfl) tk0 (pa_cons (pv 0) (pa_cons (pe_ix (ix_A (hr).units) (pv 3) pe_int (fun _ _ => rfl)) pa_nil))))
  (pss_cons (ps_if (PW.pt (pw_or (pt_cmpR (op_notInA (hr).units) (pe_ix (ix_A (hr).units) (pv 3) pe_int (fun _ _ => rfl)) (pv 7) (by rfl)) (pw_or1 (pt_not (pt_val (pe_cal C__law_matches hr (by decide) (by rfl) tk0 (pa_cons (pv 7) (pa_cons (pe_cal C__law_own_takers hr (by decide) (by rfl) tk0 (pa_cons (pv 1) (pa_cons (pv 4) pa_nil))) pa_nil)))))))) (pss_one (ps_ret pe_bl)) pss_nil)
  (pss_cons (ps_expr (pe_bm PySem.F.plainAttrs_list PySem.F.slot_list_append PySem.F.type_list_append mt_append (pv 7) (pa_cons (pe_ix (ix_A (hr).units) (pv 3) pe_int (fun _ _ => rfl)) pa_nil)))
  (pss_one (ps_for (passes_of rfl) rfl (pi_sq (pe_ix (ix_A (hr).units) (pv 1) pe_int (fun _ _ => rfl))) (pg_name (i := 8) sc__law_decisions_right.nd rfl (.inl rfl)) (pss_one (ps_if (pt_not (pt_val (pe_cal C__law_matches hr (by decide) (by rfl) tk0 (pa_cons (pe_cal C_are_together hr (by decide) (by rfl) tk0 (pa_cons (pv 0) (pa_cons (pe_ix (ix_A (hr).units) (pv 3) pe_int (fun _ _ => rfl)) (pa_cons (pe_ix (ix_A (hr).units) (pv 8) pe_int (fun _ _ => rfl)) pa_nil)))) (pa_cons (pe_cmpR (op_eqP (hr).units) (pe_slice sl_W (pv 3) (po_some pe_int) (po_some pe_int)) (pe_slice sl_W (pv 8) (po_some pe_int) (po_some pe_int)) (nomark _)) pa_nil))))) (pss_one (ps_ret pe_bl)) pss_nil))))))))))
  (pss_one (ps_ret pe_bl)))
theorem d__law_errors_right (T : Tx K mg) (C__law_draw : Cal P w K mg base 1 "_law_draw" ["purse", "many"] (c__law_draw K)) (C__law_list_told : Cal P w K mg base 6 "_law_list_told" ["plan", "kind", "knowing"] (c__law_list_told K)) (C__law_matches : Cal P w K mg base 4 "_law_matches" ["told", "due"] (c__law_matches K)) (C__law_name_told : Cal P w K mg base 7 "_law_name_told" ["plan", "kind", "one", "other"] (c__law_name_told K)) (C__law_reach_told : Cal P w K mg base 6 "_law_reach_told" ["plan", "helper", "moment"] (c__law_reach_told K)) (C__law_spread_told : Cal P w K mg base 5 "_law_spread_told" ["plan", "starts"] (c__law_spread_told K))  {f : Addr} {cdv : Value} {A : Around} {outer : List Env} {s : Shared} {H : Hp} {E : XK} (hr : Room (7) (A.deeper (envOfC "_law_errors_right" (defScope s__law_errors_right) s.heap.objs.size f cdv))) :
    PSs (cxOf (L2.CX P w) P w K mg base ["purse", "plan", "world", "known", "strange", "helpers", "moments", "starts", "helper", "moment", "due", "at", "bad", "kind", "one", "other", "row", "turn"] "_law_errors_right" (defScope s__law_errors_right) f cdv A outer s H E) (defBody s__law_errors_right) (r__law_errors_right K (fun cls d _ H => E cls d H)) :=
  have tk0 := takes_of (X := cxOf (L2.CX P w) P w K mg base ["purse", "plan", "world", "known", "strange", "helpers", "moments", "starts", "helper", "moment", "due", "at", "bad", "kind", "one", "other", "row", "turn"] "_law_errors_right" (defScope s__law_errors_right) f cdv A outer s H E) (E := E) rfl rfl rfl rfl
  (pss_cons (ps_setLc (i := 3) (own := [("row", 16)]) (g := (gName 16)) (tt := tYes) (te := (tOp (rIxA K) (tVar 16) (tC (.int 0)))) (by rfl) sc__law_errors_right.nd rfl rfl (sw_true rfl rfl rfl (by decide +kernel)) (pi_sq (pe_ix (ix_A (hr).units) (pv 2) pe_int (fun _ _ => rfl))) (blkOk_by (N := ["purse", "plan", "world", "known", "strange", "helpers", "moments", "starts", "helper", "moment", "due", "at", "bad", "kind", "one", "other", "row", "turn"]) (sc := defScope s__law_errors_right) (by decide +kernel)) (fun _ _ _ _ _ => (pg_name (i := 16) sc__law_errors_right.nd rfl (.inl rfl))) (fun _ _ _ _ _ => pts_nil) (fun _ _ _ _ _ => (pe_ix (ix_A (hr).units) (pv 16) pe_int (fun _ _ => rfl))))
  (pss_cons (ps_set (i := 4) sc__law_errors_right.nd rfl (.inl rfl) (pe_op op_addA (pe_ix (ix_A (hr).units) (pv 3) pe_int (fun _ _ => rfl)) pe_str))
  (pss_cons (ps_set (i := 5) sc__law_errors_right.nd rfl (.inl rfl) (pe_lst (pa_cons pe_int (pa_cons pe_int (pa_cons (pe_op op_addA (pe_ix (ix_A (hr).units) (pv 2) pe_int (fun _ _ => rfl)) pe_int) (pa_cons (pe_op op_subA (pe_un un_negA pe_int) (pe_cal C__law_draw hr (by decide) (by rfl) tk0 (pa_cons (pv 0) (pa_cons (pe_op op_powA pe_int pe_int) pa_nil)))) pa_nil))))))
  (pss_cons (ps_set (i := 6) sc__law_errors_right.nd rfl (.inl rfl) (pe_lst (pa_cons pe_int (pa_cons (pe_un un_negA pe_int) (pa_cons (pe_op op_addA (pe_ix (ix_A (hr).units) (pv 2) pe_int (fun _ _ => rfl)) pe_int) (pa_cons (pe_op op_addA (pe_op op_addA (pe_ix (ix_A (hr).units) (pv 2) pe_int (fun _ _ => rfl)) pe_int) (pe_cal C__law_draw hr (by decide) (by rfl) tk0 (pa_cons (pv 0) (pa_cons (pe_op op_powA pe_int pe_int) pa_nil)))) pa_nil))))))
  (pss_cons (ps_setLc (i := 7) (own := [("turn", 17)]) (g := (gName 17)) (tt := tYes) (te := (tTup (tCons (tOp rAddA (tC (.int 1)) (tCallS (SpC (c__law_draw K)) (WE W0) (tCons (tVar 0) (tCons (tOp (rIxA K) (tVar 2) (tC (.int 0))) tNil)))) (tCons (tOp (rIxA K) (tVar 2) (tC (.int 1))) tNil)))) (by rfl) sc__law_errors_right.nd rfl rfl (sw_true rfl rfl rfl (by decide +kernel)) (pi_range1 (by rfl) T.b_range (pa_cons (pe_cal C__law_draw hr (by decide) (by rfl) tk0 (pa_cons (pv 0) (pa_cons pe_int pa_nil))) pa_nil)) (blkOk_by (N := ["purse", "plan", "world", "known", "strange", "helpers", "moments", "starts", "helper", "moment", "due", "at", "bad", "kind", "one", "other", "row", "turn"]) (sc := defScope s__law_errors_right) (by decide +kernel)) (fun _ _ _ _ _ => (pg_name (i := 17) sc__law_errors_right.nd rfl (.inl rfl))) (fun _ _ _ _ _ => pts_nil) (fun _ _ _ _ _ => (pe_tup (pa_cons (pe_op op_addA pe_int (pe_cal C__law_draw hr (by decide) (by rfl) takes0 (pa_cons (pv 0) (pa_cons (pe_ix (ix_A (hr).units) (pv 2) pe_int (fun _ _ => rfl)) pa_nil)))) (pa_cons (pe_ix (ix_A (hr).units) (pv 2) pe_int (fun _ _ => rfl)) pa_nil)))))
  (pss_cons (ps_par (i := 8) (j := 9) (by rfl) sc__law_errors_right.nd rfl rfl (by decide) rfl rfl (pa_cons (pe_ix (ix_A (hr).units) (pv 5) (pe_cal C__law_draw hr (by decide) (by rfl) tk0 (pa_cons (pv 0) (pa_cons pe_int pa_nil))) (fun _ _ => rfl)) (pa_cons (pe_ix (ix_A (hr).units) (pv 6) (pe_op op_addA pe_int (pe_cal C__law_draw hr (by decide) (by rfl) tk0 (pa_cons (pv 0) (pa_cons pe_int pa_nil)))) (fun _ _ => rfl)) pa_nil)) (by rfl))
  (pss_cons (ps_set (i := 10) sc__law_errors_right.nd rfl (.inl rfl) (pe_tup (pa_cons pe_str (pa_cons (pe_ifExp (pt_cmpR (op_eqP (hr).units) (pv 8) pe_int (nomark _)) (pv 9) (pv 8)) pa_nil))))
  (pss_cons (ps_if (pt_not (pt_val (pe_cal C__law_matches hr (by decide) (by rfl) tk0 (pa_cons (pe_cal C__law_spread_told hr (by decide) (by rfl) tk0 (pa_cons (pv 1) (pa_cons (pe_op op_addA (pv 7) (pe_lst (pa_cons (pe_tup (pa_cons (pv 8) (pa_cons (pv 9) pa_nil))) (pa_cons (pe_tup (pa_cons pe_int (pa_cons (pe_un un_negA pe_int) pa_nil))) pa_nil)))) pa_nil))) (pa_cons (pv 10) pa_nil))))) (pss_one (ps_ret pe_bl)) pss_nil)
  (pss_cons (ps_if (pt_not (pt_val (pe_cal C__law_matches hr (by decide) (by rfl) tk0 (pa_cons (pe_cal C__law_reach_told hr (by decide) (by rfl) tk0 (pa_cons (pv 1) (pa_cons (pv 8) (pa_cons (pv 9) pa_nil)))) (pa_cons (pv 10) pa_nil))))) (pss_one (ps_ret pe_bl)) pss_nil)
  (pss_cons (ps_set (i := 11) sc__law_errors_right.nd rfl (.inl rfl) (pe_cal C__law_draw hr (by decide) (by rfl) tk0 (pa_cons (pv 0) (pa_cons (pe_ix (ix_A (hr).units) (pv 2) pe_int (fun _ _ => rfl)) pa_nil))))
  (pss_cons (ps_set (i := 12) sc__law_errors_right.nd rfl (.inl rfl) (pe_op op_addA (pe_op op_addA (pe_op op_mulA (pe_lst (pa_cons pe_non pa_nil)) (pv 11)) (pe_lst (pa_cons (pv 9) pa_nil))) (pe_op op_mulA (pe_lst (pa_cons (pe_un un_negA pe_int) pa_nil)) (pe_op op_subA (pe_op op_subA (pe_ix (ix_A (hr).units) (pv 2) pe_int (fun _ _ => rfl)) (pv 11)) pe_int))))
  (pss_cons (ps_for (passes_of rfl) rfl (pi_range1 (by rfl) T.b_range (pa_cons pe_int pa_nil)) (pg_name (i := 13) sc__law_errors_right.nd rfl (.inl rfl)) (pss_one (ps_if (pt_not (pt_val (pe_cal C__law_matches hr (by decide) (by rfl) tk0 (pa_cons (pe_cal C__law_list_told hr (by decide) (by rfl) tk0 (pa_cons (pv 1) (pa_cons (pv 13) (pa_cons (pv 12) pa_nil)))) (pa_cons (pe_tup (pa_cons pe_str (pa_cons (pv 9) pa_nil))) pa_nil))))) (pss_one (ps_ret pe_bl)) pss_nil)))
  (pss_cons (ps_if (pt_not (pt_val (pe_cal C__law_matches hr (by decide) (by rfl) tk0 (pa_cons (pe_cal C__law_name_told hr (by decide) (by rfl) tk0 (pa_cons (pv 1) (pa_cons pe_int (pa_cons (pv 4) (pa_cons pe_str pa_nil))))) (pa_cons (pe_tup (pa_cons pe_str (pa_cons (pe_lst (pa_cons (pv 4) pa_nil)) pa_nil))) pa_nil))))) (pss_one (ps_ret pe_bl)) pss_nil)
  (pss_cons (ps_for (passes_of rfl) rfl (pi_sq (pe_tup (pa_cons (pe_tup (pa_cons (pv 4) (pa_cons (pe_ix (ix_A (hr).units) (pv 3) pe_int (fun _ _ => rfl)) pa_nil))) (pa_cons (pe_tup (pa_cons (pe_ix (ix_A (hr).units) (pv 3) pe_int (fun _ _ => rfl)) (pa_cons (pv 4) pa_nil))) (pa_cons (pe_tup (pa_cons (pv 4) (pa_cons (pv 4) pa_nil))) pa_nil))))) (pg_un (by rfl) (pgs_cons (pg_name (i := 14) sc__law_errors_right.nd rfl (.inl rfl)) (pgs_cons (pg_name (i := 15) sc__law_errors_right.nd rfl (.inl rfl)) pgs_nil))) (pss_one (ps_if (pt_not (pt_val (pe_cal C__law_matches hr (by decide) (by rfl) tk0 (pa_cons (pe_cal C__law_name_told hr (by decide) (by rfl) tk0 (pa_cons (pv 1) (pa_cons pe_int (pa_cons (pv 14) (pa_cons (pv 15) pa_nil))))) (pa_cons (pe_tup (pa_cons pe_str (pa_cons (pe_lst (pa_cons (pv 14) (pa_cons (pv 15) pa_nil))) pa_nil))) pa_nil))))) (pss_one (ps_ret pe_bl)) pss_nil)))
  (pss_one (ps_ret pe_bl))))))))))))))))
theorem d__law_great_right (T : Tx K mg) (C__law_draw : Cal P w K mg base 1 "_law_draw" ["purse", "many"] (c__law_draw K)) (C__law_letters : Cal P w K mg base 3 "_law_letters" ["purse", "helpers", "last", "mishaps", "many"] (c__law_letters K)) (C__law_matches : Cal P w K mg base 4 "_law_matches" ["told", "due"] (c__law_matches K)) (C__law_own_spread : Cal P w K mg base 1 "_law_own_spread" ["world", "starts"] (c__law_own_spread K)) (C__law_plan : Cal P w K mg base 8 "_law_plan" ["world"] (c__law_plan K)) (C__law_spread_told : Cal P w K mg base 5 "_law_spread_told" ["plan", "starts"] (c__law_spread_told K)) (C__law_words : Cal P w K mg base 3 "_law_words" ["purse", "many"] (c__law_words K)) (C_judge_knowing : Cal P w K mg base 5 "judge_knowing" ["plan", "knowing"] (c_judge_knowing K)) (C_spread_of : Cal P w K mg base 4 "spread_of" ["plan", "starts"] (c_spread_of K))  {f : Addr} {cdv : Value} {A : Around} {outer : List Env} {s : Shared} {H : Hp} {E : XK} (hr : Room (8) (A.deeper (envOfC "_law_great_right" (defScope s__law_great_right) s.heap.objs.size f cdv))) :
    PSs (cxOf (L2.CX P w) P w K mg base ["purse", "mishaps", "letters", "world", "plan", "starts", "due", "told", "turn"] "_law_great_right" (defScope s__law_great_right) f cdv A outer s H E) (defBody s__law_great_right) (r__law_great_right K (fun cls d _ H => E cls d H)) :=
  have tk0 := takes_of (X := cxOf (L2.CX P w) P w K mg base ["purse", "mishaps", "letters", "world", "plan", "starts", "due", "told", "turn"] "_law_great_right" (defScope s__law_great_right) f cdv A outer s H E) (E := E) rfl rfl rfl rfl
  (pss_cons (ps_set (i := 1) sc__law_great_right.nd rfl (.inl rfl) (pe_cal C__law_words hr (by decide) (by rfl) tk0 (pa_cons (pv 0) (pa_cons pe_int pa_nil))))
  (pss_cons (ps_set (i := 2) sc__law_great_right.nd rfl (.inl rfl) (pe_cal C__law_letters hr (by decide) (by rfl) tk0 (pa_cons (pv 0) (pa_cons pe_int (pa_cons pe_int (pa_cons (pv 1) (pa_cons (pe_op op_addA pe_int (pe_cal C__law_draw hr (by decide) (by rfl) tk0 (pa_cons (pv 0) (pa_cons pe_int pa_nil)))) pa_nil)))))))
  (pss_cons (ps_set (i := 3) sc__law_great_right.nd rfl (.inl rfl) (pe_lst (pa_cons pe_int (pa_cons pe_int (pa_cons (pv 1) (pa_cons (pe_lst (pa_cons (pe_lst pa_nil) (pa_cons (pv 1) pa_nil))) (pa_cons (pe_lst (pa_cons (pe_tup (pa_cons pe_str (pa_cons pe_int (pa_cons pe_int (pa_cons pe_int (pa_cons pe_int pa_nil)))))) pa_nil)) (pa_cons (pe_lst pa_nil) (pa_cons (pe_lst pa_nil) (pa_cons (pv 2) pa_nil))))))))))
  (pss_cons (ps_set (i := 4) sc__law_great_right.nd rfl (.inl rfl) (pe_cal C__law_plan hr (by decide) (by rfl) tk0 (pa_cons (pv 3) pa_nil)))
  (pss_cons (ps_setLc (i := 5) (own := [("turn", 8)]) (g := (gName 8)) (tt := tYes) (te := (tTup (tCons (tOp rAddA (tC (.int 1)) (tCallS (SpC (c__law_draw K)) (WE W0) (tCons (tVar 0) (tCons (tC (.int 8)) tNil)))) (tCons (tCallS (SpC (c__law_draw K)) (WE W0) (tCons (tVar 0) (tCons (tC (.int 25)) tNil))) tNil)))) (by rfl) sc__law_great_right.nd rfl rfl (sw_true rfl rfl rfl (by decide +kernel)) (pi_range1 (by rfl) T.b_range (pa_cons (pe_op op_addA pe_int (pe_cal C__law_draw hr (by decide) (by rfl) tk0 (pa_cons (pv 0) (pa_cons pe_int pa_nil)))) pa_nil)) (blkOk_by (N := ["purse", "mishaps", "letters", "world", "plan", "starts", "due", "told", "turn"]) (sc := defScope s__law_great_right) (by decide +kernel)) (fun _ _ _ _ _ => (pg_name (i := 8) sc__law_great_right.nd rfl (.inl rfl))) (fun _ _ _ _ _ => pts_nil) (fun _ _ _ _ _ => (pe_tup (pa_cons (pe_op op_addA pe_int (pe_cal C__law_draw hr (by decide) (by rfl) takes0 (pa_cons (pv 0) (pa_cons pe_int pa_nil)))) (pa_cons (pe_cal C__law_draw hr (by decide) (by rfl) takes0 (pa_cons (pv 0) (pa_cons pe_int pa_nil))) pa_nil)))))
  (pss_cons (ps_set (i := 6) sc__law_great_right.nd rfl (.inl rfl) (pe_cal C__law_own_spread hr (by decide) (by rfl) tk0 (pa_cons (pv 3) (pa_cons (pv 5) pa_nil))))
  (pss_cons (ps_set (i := 7) sc__law_great_right.nd rfl (.inl rfl) (pe_cal C_spread_of hr (by decide) (by rfl) tk0 (pa_cons (pv 4) (pa_cons (pe_callTy cr_listA (by rfl) T.b_list (by decide +kernel) (pa_cons (pv 5) pa_nil)) pa_nil))))
  (pss_cons (ps_if (PW.pt (pw_or (pt_not (pt_val (pe_cal C__law_matches hr (by decide) (by rfl) tk0 (pa_cons (pv 7) (pa_cons (pv 6) pa_nil))))) (pw_or1 (pt_cmpR op_isNotA (pe_cal C_judge_knowing hr (by decide) (by rfl) tk0 (pa_cons (pv 4) (pa_cons (pv 7) pa_nil))) pe_non (nomark _))))) (pss_one (ps_ret pe_bl)) pss_nil)
  (pss_cons (ps_if (pt_not (pt_val (pe_cal C__law_matches hr (by decide) (by rfl) tk0 (pa_cons (pe_cal C__law_spread_told hr (by decide) (by rfl) tk0 (pa_cons (pv 4) (pa_cons (pe_slice sl_W (pe_op op_mulA (pv 5) pe_int) po_none (po_some pe_int)) pa_nil))) (pa_cons (pe_tup (pa_cons pe_str (pa_cons (pv 6) pa_nil))) pa_nil))))) (pss_one (ps_ret pe_bl)) pss_nil)
  (pss_cons (ps_if (pt_not (pt_val (pe_cal C__law_matches hr (by decide) (by rfl) tk0 (pa_cons (pe_cal C__law_spread_told hr (by decide) (by rfl) tk0 (pa_cons (pv 4) (pa_cons (pe_slice sl_W (pe_op op_mulA (pv 5) pe_int) po_none (po_some pe_int)) pa_nil))) (pa_cons (pe_tup (pa_cons pe_str (pa_cons pe_str pa_nil))) pa_nil))))) (pss_one (ps_ret pe_bl)) pss_nil)
  (pss_one (ps_ret (pe_cal C__law_matches hr (by decide) (by rfl) tk0 (pa_cons (pe_cal C__law_spread_told hr (by decide) (by rfl) tk0 (pa_cons (pv 4) (pa_cons (pe_op op_mulA (pe_lst (pa_cons (pe_tup (pa_cons pe_int (pa_cons (pe_un un_negA pe_int) pa_nil))) pa_nil)) pe_int) pa_nil))) (pa_cons (pe_tup (pa_cons pe_str (pa_cons pe_str pa_nil))) pa_nil)))))))))))))))
theorem d_law (T : Tx K mg) (C__law_decisions_right : Cal P w K mg base 7 "_law_decisions_right" ["plan", "world", "closed"] (c__law_decisions_right K)) (C__law_draw : Cal P w K mg base 1 "_law_draw" ["purse", "many"] (c__law_draw K)) (C__law_errors_right : Cal P w K mg base 8 "_law_errors_right" ["purse", "plan", "world"] (c__law_errors_right K)) (C__law_every_list : Cal P w K mg base 1 "_law_every_list" ["world"] (c__law_every_list K)) (C__law_great_right : Cal P w K mg base 9 "_law_great_right" ["purse"] (c__law_great_right K)) (C__law_least_closed : Cal P w K mg base 1 "_law_least_closed" ["world", "closed", "starts"] (c__law_least_closed K)) (C__law_matches : Cal P w K mg base 4 "_law_matches" ["told", "due"] (c__law_matches K)) (C__law_open_letter : Cal P w K mg base 1 "_law_open_letter" ["world", "knowing"] (c__law_open_letter K)) (C__law_own_takers : Cal P w K mg base 1 "_law_own_takers" ["world", "knowing"] (c__law_own_takers K)) (C__law_plan : Cal P w K mg base 8 "_law_plan" ["world"] (c__law_plan K)) (C__law_purse : CalS P w K mg base 1 "_law_purse" ["script", "at"] (sp__law_purse K)) (C__law_word_world : Cal P w K mg base 4 "_law_word_world" ["purse"] (c__law_word_world K)) (C_judge_knowing : Cal P w K mg base 5 "judge_knowing" ["plan", "knowing"] (c_judge_knowing K)) (C_spread_of : Cal P w K mg base 4 "spread_of" ["plan", "starts"] (c_spread_of K)) (C_takers_of : Cal P w K mg base 5 "takers_of" ["plan", "knowing"] (c_takers_of K))  {f : Addr} {cdv : Value} {A : Around} {outer : List Env} {s : Shared} {H : Hp} {E : XK} (hr : Room (9) (A.deeper (envOfC "law" (defScope s_law) s.heap.objs.size f cdv))) :
    PSs (cxOf (L2.CX P w) P w K mg base ["script", "purse", "world", "plan", "closed", "knowing", "due", "handed", "many", "starts", "told", "turn", "one"] "law" (defScope s_law) f cdv A outer s H E) (defBody s_law) (r_law K (fun cls d _ H => E cls d H)) :=
  have tk0 := takes_of (X := cxOf (L2.CX P w) P w K mg base ["script", "purse", "world", "plan", "closed", "knowing", "due", "handed", "many", "starts", "told", "turn", "one"] "law" (defScope s_law) f cdv A outer s H E) (E := E) rfl rfl rfl rfl
  (pss_cons (ps_set (i := 1) sc_law.nd rfl (.inr rfl) (pe_calS C__law_purse hr (by decide) (by rfl) tk0 (pa_cons (pv 0) (pa_cons pe_int pa_nil))))
  (pss_cons (ps_set (i := 2) sc_law.nd rfl (.inr rfl) (pe_cal C__law_word_world hr (by decide) (by rfl) tk0 (pa_cons (pv 1) pa_nil)))
  (pss_cons (ps_set (i := 3) sc_law.nd rfl (.inl rfl) (pe_cal C__law_plan hr (by decide) (by rfl) tk0 (pa_cons (pv 2) pa_nil)))
  (pss_cons (ps_set (i := 4) sc_law.nd rfl (.inl rfl) (pe_lst pa_nil))
  (pss_cons (ps_for (passes_of rfl) rfl (pi_sq (pe_cal C__law_every_list hr (by decide) (by rfl) tk0 (pa_cons (pv 2) pa_nil))) (pg_name (i := 5) sc_law.nd rfl (.inl rfl)) (pss_cons (ps_set (i := 6) sc_law.nd rfl (.inl rfl) (pe_cal C__law_open_letter hr (by decide) (by rfl) tk0 (pa_cons (pv 2) (pa_cons (pv 5) pa_nil))))
  (pss_cons (ps_set (i := 7) sc_law.nd rfl (.inl rfl) (pe_callTy cr_listA (by rfl) T.b_list (by decide +kernel) (pa_cons (pv 5) pa_nil)))
  (pss_cons (ps_if (pt_not (pt_val (pe_cal C__law_matches hr (by decide) (by rfl) tk0 (pa_cons (pe_cal C_judge_knowing hr (by decide) (by rfl) tk0 (pa_cons (pv 3) (pa_cons (pv 7) pa_nil))) (pa_cons (pv 6) pa_nil))))) (pss_one (ps_ret pe_bl)) pss_nil)
  (pss_cons (ps_if (pt_cmpR op_isA (pv 6) pe_non (nomark _)) (pss_one (ps_expr (pe_bm PySem.F.plainAttrs_list PySem.F.slot_list_append PySem.F.type_list_append mt_append (pv 4) (pa_cons (pv 5) pa_nil)))) pss_nil)
  (pss_cons (ps_if (PW.pt (pw_or (pt_cmpR op_isA (pv 6) pe_non (nomark _)) (pw_or1 (pt_cmpR (op_eqP (hr).units) (pe_cal C__law_draw hr (by decide) (by rfl) tk0 (pa_cons (pv 1) (pa_cons pe_int pa_nil))) pe_int (nomark _))))) (pss_one (ps_if (pt_not (pt_val (pe_cal C__law_matches hr (by decide) (by rfl) tk0 (pa_cons (pe_cal C_takers_of hr (by decide) (by rfl) tk0 (pa_cons (pv 3) (pa_cons (pe_callTy cr_listA (by rfl) T.b_list (by decide +kernel) (pa_cons (pv 5) pa_nil)) pa_nil))) (pa_cons (pe_cal C__law_own_takers hr (by decide) (by rfl) tk0 (pa_cons (pv 2) (pa_cons (pv 5) pa_nil))) pa_nil))))) (pss_one (ps_ret pe_bl)) pss_nil)) pss_nil)
  (pss_one (ps_if (pt_cmpR (op_neP (hr).units) (pv 7) (pv 5) (nomark _)) (pss_one (ps_ret pe_bl)) pss_nil))))))))
  (pss_cons (ps_for (passes_of rfl) rfl (pi_range1 (by rfl) T.b_range (pa_cons pe_int pa_nil)) (pg_name (i := 8) sc_law.nd rfl (.inl rfl)) (pss_cons (ps_setLc (i := 9) (own := [("turn", 11)]) (g := (gName 11)) (tt := tYes) (te := (tTup (tCons (tOp rAddA (tC (.int 1)) (tCallS (SpC (c__law_draw K)) (WE W0) (tCons (tVar 1) (tCons (tOp (rIxA K) (tVar 2) (tC (.int 0))) tNil)))) (tCons (tCallS (SpC (c__law_draw K)) (WE W0) (tCons (tVar 1) (tCons (tOp rAddA (tOp (rIxA K) (tVar 2) (tC (.int 1))) (tC (.int 1))) tNil))) tNil)))) (by rfl) sc_law.nd rfl rfl (sw_true rfl rfl rfl (by decide +kernel)) (pi_range1 (by rfl) T.b_range (pa_cons (pv 8) pa_nil)) (blkOk_by (N := ["script", "purse", "world", "plan", "closed", "knowing", "due", "handed", "many", "starts", "told", "turn", "one"]) (sc := defScope s_law) (by decide +kernel)) (fun _ _ _ _ _ => (pg_name (i := 11) sc_law.nd rfl (.inl rfl))) (fun _ _ _ _ _ => pts_nil) (fun _ _ _ _ _ => (pe_tup (pa_cons (pe_op op_addA pe_int (pe_cal C__law_draw hr (by decide) (by rfl) takes0 (pa_cons (pv 1) (pa_cons (pe_ix (ix_A (hr).units) (pv 2) pe_int (fun _ _ => rfl)) pa_nil)))) (pa_cons (pe_cal C__law_draw hr (by decide) (by rfl) takes0 (pa_cons (pv 1) (pa_cons (pe_op op_addA (pe_ix (ix_A (hr).units) (pv 2) pe_int (fun _ _ => rfl)) pe_int) pa_nil))) pa_nil)))))
  (pss_cons (ps_set (i := 7) sc_law.nd rfl (.inl rfl) (pe_ifExp (pt_cmpR (op_eqP (hr).units) (pv 8) pe_int (nomark _)) (pe_lc (own := [("one", 12)]) (g := (gName 12)) (tt := tYes) (te := (tLst (tCons (tOp (rIxA K) (tVar 12) (tC (.int 0))) (tCons (tOp (rIxA K) (tVar 12) (tC (.int 1))) tNil)))) (by rfl) sc_law.nd (pi_sq (pv 9)) (blkOk_by (N := ["script", "purse", "world", "plan", "closed", "knowing", "due", "handed", "many", "starts", "told", "turn", "one"]) (sc := defScope s_law) (by decide +kernel)) (fun _ _ _ _ _ => (pg_name (i := 12) sc_law.nd rfl (.inl rfl))) (fun _ _ _ _ _ => pts_nil) (fun _ _ _ _ _ => (pe_lst (pa_cons (pe_ix (ix_A (hr).units) (pv 12) pe_int (fun _ _ => rfl)) (pa_cons (pe_ix (ix_A (hr).units) (pv 12) pe_int (fun _ _ => rfl)) pa_nil))))) (pe_callTy cr_listA (by rfl) T.b_list (by decide +kernel) (pa_cons (pv 9) pa_nil))))
  (pss_cons (ps_set (i := 10) sc_law.nd rfl (.inl rfl) (pe_cal C_spread_of hr (by decide) (by rfl) tk0 (pa_cons (pv 3) (pa_cons (pv 7) pa_nil))))
  (pss_one (ps_if (PW.pt (pw_or (pt_not (pt_val (pe_cal C__law_matches hr (by decide) (by rfl) tk0 (pa_cons (pv 10) (pa_cons (pe_cal C__law_least_closed hr (by decide) (by rfl) tk0 (pa_cons (pv 2) (pa_cons (pv 4) (pa_cons (pv 9) pa_nil)))) pa_nil))))) (pw_or1 (pt_cmpR (op_neP (hr).units) (pe_callB cr_lenA (by rfl) T.b_len (by decide +kernel) (pa_cons (pv 7) pa_nil)) (pv 8) (nomark _))))) (pss_one (ps_ret pe_bl)) pss_nil))))))
  (pss_cons (ps_if (PW.pt (pw_or (pt_not (pt_val (pe_cal C__law_decisions_right hr (by decide) (by rfl) tk0 (pa_cons (pv 3) (pa_cons (pv 2) (pa_cons (pv 4) pa_nil)))))) (pw_or1 (pt_not (pt_val (pe_cal C__law_errors_right hr (by decide) (by rfl) tk0 (pa_cons (pv 1) (pa_cons (pv 3) (pa_cons (pv 2) pa_nil))))))))) (pss_one (ps_ret pe_bl)) pss_nil)
  (pss_one (ps_ret (pe_cal C__law_great_right hr (by decide) (by rfl) tk0 (pa_cons (pv 1) pa_nil)))))))))))
theorem d_Plan_init (T : Tx K mg) (C_Plan_check_rows : CalM P w K mg base 5 "Plan" "check_rows" ["self"] (c_Plan_check_rows K)) (C_check_bounds : Cal P w K mg base 4 "check_bounds" ["helpers", "last", "many", "decisions", "rules", "sights"] (c_check_bounds K))  {f : Addr} {cdv : Value} {A : Around} {outer : List Env} {s : Shared} {H : Hp} {E : XK} (hr : Room (5) (A.deeper (envOfC "Plan.__init__" (defScope s_Plan_init) s.heap.objs.size f cdv))) :
    PSs (cxOf (L2.CX P w) P w K mg base ["self", "helpers", "last", "mishaps", "courses", "decisions", "rules", "sights", "letters", "many", "row"] "Plan.__init__" (defScope s_Plan_init) f cdv A outer s H E) (defBody s_Plan_init) (r_Plan_init K (fun cls d _ H => E cls d H)) :=
  have tk0 := takes_of (X := cxOf (L2.CX P w) P w K mg base ["self", "helpers", "last", "mishaps", "courses", "decisions", "rules", "sights", "letters", "many", "row"] "Plan.__init__" (defScope s_Plan_init) f cdv A outer s H E) (E := E) rfl rfl rfl rfl
  (pss_cons (ps_set (i := 9) sc_Plan_init.nd rfl (.inl rfl) (pe_lst (pa_cons (pe_callB cr_lenA (by rfl) T.b_len (by decide +kernel) (pa_cons (pv 3) pa_nil)) (pa_cons (pe_callB cr_lenA (by rfl) T.b_len (by decide +kernel) (pa_cons (pv 4) pa_nil)) (pa_cons (pe_callB cr_lenA (by rfl) T.b_len (by decide +kernel) (pa_cons (pv 5) pa_nil)) (pa_cons (pe_callB cr_lenA (by rfl) T.b_len (by decide +kernel) (pa_cons (pv 6) pa_nil)) (pa_cons (pe_callB cr_lenA (by rfl) T.b_len (by decide +kernel) (pa_cons (pv 7) pa_nil)) (pa_cons (pe_callB cr_lenA (by rfl) T.b_len (by decide +kernel) (pa_cons (pv 8) pa_nil)) pa_nil))))))))
  (pss_cons (ps_expr (pe_cal C_check_bounds hr (by decide) (by rfl) tk0 (pa_cons (pv 1) (pa_cons (pv 2) (pa_cons (pv 9) (pa_cons (pv 5) (pa_cons (pv 6) (pa_cons (pv 7) pa_nil))))))))
  (pss_cons (ps_fld (pv 0) (pv 1) (by rfl))
  (pss_cons (ps_fld (pv 0) (pv 2) (by rfl))
  (pss_cons (ps_fld (pv 0) (pe_callTy cr_listA (by rfl) T.b_list (by decide +kernel) (pa_cons (pv 3) pa_nil)) (by rfl))
  (pss_cons (ps_fld (pv 0) (pe_lc (own := [("row", 10)]) (g := (gName 10)) (tt := tYes) (te := (tCB (rListA K) (tCons (tVar 10) tNil))) (by rfl) sc_Plan_init.nd (pi_sq (pv 4)) (blkOk_by (N := ["self", "helpers", "last", "mishaps", "courses", "decisions", "rules", "sights", "letters", "many", "row"]) (sc := defScope s_Plan_init) (by decide +kernel)) (fun _ _ _ _ _ => (pg_name (i := 10) sc_Plan_init.nd rfl (.inl rfl))) (fun _ _ _ _ _ => pts_nil) (fun _ _ _ _ _ => (pe_callTy cr_listA (by rfl) T.b_list (by decide +kernel) (pa_cons (pv 10) pa_nil)))) (by rfl))
  (pss_cons (ps_fld (pv 0) (pe_lc (own := [("row", 10)]) (g := (gName 10)) (tt := tYes) (te := (tCB (rTupA K) (tCons (tVar 10) tNil))) (by rfl) sc_Plan_init.nd (pi_sq (pv 5)) (blkOk_by (N := ["self", "helpers", "last", "mishaps", "courses", "decisions", "rules", "sights", "letters", "many", "row"]) (sc := defScope s_Plan_init) (by decide +kernel)) (fun _ _ _ _ _ => (pg_name (i := 10) sc_Plan_init.nd rfl (.inl rfl))) (fun _ _ _ _ _ => pts_nil) (fun _ _ _ _ _ => (pe_callTy cr_tupA (by rfl) T.b_tuple (by decide +kernel) (pa_cons (pv 10) pa_nil)))) (by rfl))
  (pss_cons (ps_fld (pv 0) (pe_lc (own := [("row", 10)]) (g := (gName 10)) (tt := tYes) (te := (tTup (tCons (tOp (rIxA K) (tVar 10) (tC (.int 0))) (tCons (tOp (rIxA K) (tVar 10) (tC (.int 1))) (tCons (tOp (rIxA K) (tVar 10) (tC (.int 2))) (tCons (tCB (rListA K) (tCons (tOp (rIxA K) (tVar 10) (tC (.int 3))) tNil)) (tCons (tCB (rListA K) (tCons (tOp (rIxA K) (tVar 10) (tC (.int 4))) tNil)) tNil))))))) (by rfl) sc_Plan_init.nd (pi_sq (pv 6)) (blkOk_by (N := ["self", "helpers", "last", "mishaps", "courses", "decisions", "rules", "sights", "letters", "many", "row"]) (sc := defScope s_Plan_init) (by decide +kernel)) (fun _ _ _ _ _ => (pg_name (i := 10) sc_Plan_init.nd rfl (.inl rfl))) (fun _ _ _ _ _ => pts_nil) (fun _ _ _ _ _ => (pe_tup (pa_cons (pe_ix (ix_A (hr).units) (pv 10) pe_int (fun _ _ => rfl)) (pa_cons (pe_ix (ix_A (hr).units) (pv 10) pe_int (fun _ _ => rfl)) (pa_cons (pe_ix (ix_A (hr).units) (pv 10) pe_int (fun _ _ => rfl)) (pa_cons (pe_callTy cr_listA (by rfl) T.b_list (by decide +kernel) (pa_cons (pe_ix (ix_A (hr).units) (pv 10) pe_int (fun _ _ => rfl)) pa_nil)) (pa_cons (pe_callTy cr_listA (by rfl) T.b_list (by decide +kernel) (pa_cons (pe_ix (ix_A (hr).units) (pv 10) pe_int (fun _ _ => rfl)) pa_nil)) pa_nil)))))))) (by rfl))
  (pss_cons (ps_fld (pv 0) (pe_lc (own := [("row", 10)]) (g := (gName 10)) (tt := tYes) (te := (tCB (rTupA K) (tCons (tVar 10) tNil))) (by rfl) sc_Plan_init.nd (pi_sq (pv 7)) (blkOk_by (N := ["self", "helpers", "last", "mishaps", "courses", "decisions", "rules", "sights", "letters", "many", "row"]) (sc := defScope s_Plan_init) (by decide +kernel)) (fun _ _ _ _ _ => (pg_name (i := 10) sc_Plan_init.nd rfl (.inl rfl))) (fun _ _ _ _ _ => pts_nil) (fun _ _ _ _ _ => (pe_callTy cr_tupA (by rfl) T.b_tuple (by decide +kernel) (pa_cons (pv 10) pa_nil)))) (by rfl))
  (pss_cons (ps_fld (pv 0) (pe_lc (own := [("row", 10)]) (g := (gName 10)) (tt := tYes) (te := (tTup (tCons (tOp (rIxA K) (tVar 10) (tC (.int 0))) (tCons (tOp (rIxA K) (tVar 10) (tC (.int 1))) (tCons (tOp (rIxA K) (tVar 10) (tC (.int 2))) (tCons (tOp (rIxA K) (tVar 10) (tC (.int 3))) (tCons (tCB (rListA K) (tCons (tOp (rIxA K) (tVar 10) (tC (.int 4))) tNil)) (tCons (tCB (rListA K) (tCons (tOp (rIxA K) (tVar 10) (tC (.int 5))) tNil)) tNil)))))))) (by rfl) sc_Plan_init.nd (pi_sq (pv 8)) (blkOk_by (N := ["self", "helpers", "last", "mishaps", "courses", "decisions", "rules", "sights", "letters", "many", "row"]) (sc := defScope s_Plan_init) (by decide +kernel)) (fun _ _ _ _ _ => (pg_name (i := 10) sc_Plan_init.nd rfl (.inl rfl))) (fun _ _ _ _ _ => pts_nil) (fun _ _ _ _ _ => (pe_tup (pa_cons (pe_ix (ix_A (hr).units) (pv 10) pe_int (fun _ _ => rfl)) (pa_cons (pe_ix (ix_A (hr).units) (pv 10) pe_int (fun _ _ => rfl)) (pa_cons (pe_ix (ix_A (hr).units) (pv 10) pe_int (fun _ _ => rfl)) (pa_cons (pe_ix (ix_A (hr).units) (pv 10) pe_int (fun _ _ => rfl)) (pa_cons (pe_callTy cr_listA (by rfl) T.b_list (by decide +kernel) (pa_cons (pe_ix (ix_A (hr).units) (pv 10) pe_int (fun _ _ => rfl)) pa_nil)) (pa_cons (pe_callTy cr_listA (by rfl) T.b_list (by decide +kernel) (pa_cons (pe_ix (ix_A (hr).units) (pv 10) pe_int (fun _ _ => rfl)) pa_nil)) pa_nil))))))))) (by rfl))
  (pss_cons (ps_expr (pe_calM0 C_Plan_check_rows hr (by decide) tk0 (pv 0)))
  (pss_cons (ps_fld (pv 0) pe_dnewK (by rfl))
  (pss_one (ps_for (passes_of rfl) rfl (pi_sq (pe_fld (pv 0) (by rfl))) (pg_name (i := 10) sc_Plan_init.nd rfl (.inl rfl)) (pss_one (ps_dput (hu_of hr) (pe_fld (pv 0) (by rfl)) (pe_ix (ix_A (hr).units) (pv 10) pe_int (fun _ _ => rfl)) (pe_callB cr_lenA (by rfl) T.b_len (by decide +kernel) (pa_cons (pe_fld (pv 0) (by rfl)) pa_nil)) rfl))))))))))))))))
theorem d_Plan_check_rows (T : Tx K mg) (C_check_courses : Cal P w K mg base 3 "check_courses" ["courses", "mishaps"] (c_check_courses K)) (C_check_decisions : Cal P w K mg base 3 "check_decisions" ["decisions", "helpers", "last"] (c_check_decisions K)) (C_check_letters : Cal P w K mg base 4 "check_letters" ["letters", "helpers", "last", "mishaps"] (c_check_letters K)) (C_check_mishaps : Cal P w K mg base 3 "check_mishaps" ["mishaps"] (c_check_mishaps K)) (C_check_rules : Cal P w K mg base 4 "check_rules" ["rules", "names", "mishaps"] (c_check_rules K)) (C_check_sights : Cal P w K mg base 3 "check_sights" ["sights", "decisions", "helpers", "last", "mishaps"] (c_check_sights K)) (I_BadPlan : InitOk P w K mg base "BadPlan" ["what", "number"]) {f : Addr} {cdv : Value} {A : Around} {outer : List Env} {s : Shared} {H : Hp} {E : XK} (hr : Room (4) (A.deeper (envOfC "Plan.check_rows" (defScope s_Plan_check_rows) s.heap.objs.size f cdv))) :
    PSs (cxOf (L2.CX P w) P w K mg base ["self", "row"] "Plan.check_rows" (defScope s_Plan_check_rows) f cdv A outer s H E) (defBody s_Plan_check_rows) (r_Plan_check_rows K (fun cls d _ H => E cls d H)) :=
  have tk0 := takes_of (X := cxOf (L2.CX P w) P w K mg base ["self", "row"] "Plan.check_rows" (defScope s_Plan_check_rows) f cdv A outer s H E) (E := E) rfl rfl rfl rfl
  (pss_cons (ps_if (pt_cmpR op_ltA (pe_fld (pv 0) (by rfl)) pe_int (nomark _)) (pss_one (ps_raiseX T.x_BadPlan I_BadPlan hr tk0 (pa_cons pe_str (pa_cons pe_int pa_nil)))) pss_nil)
  (pss_cons (ps_if (pt_cmpR op_ltA (pe_fld (pv 0) (by rfl)) pe_int (nomark _)) (pss_one (ps_raiseX T.x_BadPlan I_BadPlan hr tk0 (pa_cons pe_str (pa_cons pe_int pa_nil)))) pss_nil)
  (pss_cons (ps_expr (pe_cal C_check_mishaps hr (by decide) (by rfl) tk0 (pa_cons (pe_fld (pv 0) (by rfl)) pa_nil)))
  (pss_cons (ps_expr (pe_cal C_check_courses hr (by decide) (by rfl) tk0 (pa_cons (pe_fld (pv 0) (by rfl)) (pa_cons (pe_fld (pv 0) (by rfl)) pa_nil))))
  (pss_cons (ps_expr (pe_cal C_check_decisions hr (by decide) (by rfl) tk0 (pa_cons (pe_fld (pv 0) (by rfl)) (pa_cons (pe_fld (pv 0) (by rfl)) (pa_cons (pe_fld (pv 0) (by rfl)) pa_nil)))))
  (pss_cons (ps_expr (pe_cal C_check_rules hr (by decide) (by rfl) tk0 (pa_cons (pe_fld (pv 0) (by rfl)) (pa_cons (pe_lc (own := [("row", 1)]) (g := (gName 1)) (tt := tYes) (te := (tOp (rIxA K) (tVar 1) (tC (.int 0)))) (by rfl) sc_Plan_check_rows.nd (pi_sq (pe_fld (pv 0) (by rfl))) (blkOk_by (N := ["self", "row"]) (sc := defScope s_Plan_check_rows) (by decide +kernel)) (fun _ _ _ _ _ => (pg_name (i := 1) sc_Plan_check_rows.nd rfl (.inl rfl))) (fun _ _ _ _ _ => pts_nil) (fun _ _ _ _ _ => (pe_ix (ix_A (hr).units) (pv 1) pe_int (fun _ _ => rfl)))) (pa_cons (pe_fld (pv 0) (by rfl)) pa_nil)))))
  (pss_cons (ps_expr (pe_cal C_check_sights hr (by decide) (by rfl) tk0 (pa_cons (pe_fld (pv 0) (by rfl)) (pa_cons (pe_fld (pv 0) (by rfl)) (pa_cons (pe_fld (pv 0) (by rfl)) (pa_cons (pe_fld (pv 0) (by rfl)) (pa_cons (pe_fld (pv 0) (by rfl)) pa_nil)))))))
  (pss_one (ps_expr (pe_cal C_check_letters hr (by decide) (by rfl) tk0 (pa_cons (pe_fld (pv 0) (by rfl)) (pa_cons (pe_fld (pv 0) (by rfl)) (pa_cons (pe_fld (pv 0) (by rfl)) (pa_cons (pe_fld (pv 0) (by rfl)) pa_nil))))))))))))))
theorem d_Plan_helpers (T : Tx K mg)   {f : Addr} {cdv : Value} {A : Around} {outer : List Env} {s : Shared} {H : Hp} {E : XK} (hr : Room (0) (A.deeper (envOfC "Plan.helpers" (defScope s_Plan_helpers) s.heap.objs.size f cdv))) :
    PSs (cxOf (L2.CX P w) P w K mg base ["self"] "Plan.helpers" (defScope s_Plan_helpers) f cdv A outer s H E) (defBody s_Plan_helpers) (r_Plan_helpers K (fun cls d _ H => E cls d H)) :=
  have tk0 := takes_of (X := cxOf (L2.CX P w) P w K mg base ["self"] "Plan.helpers" (defScope s_Plan_helpers) f cdv A outer s H E) (E := E) rfl rfl rfl rfl
  (pss_one (ps_ret (pe_fld (pv 0) (by rfl))))
theorem d_Plan_last (T : Tx K mg)   {f : Addr} {cdv : Value} {A : Around} {outer : List Env} {s : Shared} {H : Hp} {E : XK} (hr : Room (0) (A.deeper (envOfC "Plan.last" (defScope s_Plan_last) s.heap.objs.size f cdv))) :
    PSs (cxOf (L2.CX P w) P w K mg base ["self"] "Plan.last" (defScope s_Plan_last) f cdv A outer s H E) (defBody s_Plan_last) (r_Plan_last K (fun cls d _ H => E cls d H)) :=
  have tk0 := takes_of (X := cxOf (L2.CX P w) P w K mg base ["self"] "Plan.last" (defScope s_Plan_last) f cdv A outer s H E) (E := E) rfl rfl rfl rfl
  (pss_one (ps_ret (pe_fld (pv 0) (by rfl))))
theorem d_Plan_decisions (T : Tx K mg)   {f : Addr} {cdv : Value} {A : Around} {outer : List Env} {s : Shared} {H : Hp} {E : XK} (hr : Room (0) (A.deeper (envOfC "Plan.decisions" (defScope s_Plan_decisions) s.heap.objs.size f cdv))) :
    PSs (cxOf (L2.CX P w) P w K mg base ["self"] "Plan.decisions" (defScope s_Plan_decisions) f cdv A outer s H E) (defBody s_Plan_decisions) (r_Plan_decisions K (fun cls d _ H => E cls d H)) :=
  have tk0 := takes_of (X := cxOf (L2.CX P w) P w K mg base ["self"] "Plan.decisions" (defScope s_Plan_decisions) f cdv A outer s H E) (E := E) rfl rfl rfl rfl
  (pss_one (ps_ret (pe_callTy cr_listA (by rfl) T.b_list (by decide +kernel) (pa_cons (pe_fld (pv 0) (by rfl)) pa_nil))))
theorem d_Plan_letters (T : Tx K mg)   {f : Addr} {cdv : Value} {A : Around} {outer : List Env} {s : Shared} {H : Hp} {E : XK} (hr : Room (0) (A.deeper (envOfC "Plan.letters" (defScope s_Plan_letters) s.heap.objs.size f cdv))) :
    PSs (cxOf (L2.CX P w) P w K mg base ["self", "row"] "Plan.letters" (defScope s_Plan_letters) f cdv A outer s H E) (defBody s_Plan_letters) (r_Plan_letters K (fun cls d _ H => E cls d H)) :=
  have tk0 := takes_of (X := cxOf (L2.CX P w) P w K mg base ["self", "row"] "Plan.letters" (defScope s_Plan_letters) f cdv A outer s H E) (E := E) rfl rfl rfl rfl
  (pss_one (ps_ret (pe_lc (own := [("row", 1)]) (g := (gName 1)) (tt := tYes) (te := (tTup (tCons (tOp (rIxA K) (tVar 1) (tC (.int 0))) (tCons (tOp (rIxA K) (tVar 1) (tC (.int 1))) (tCons (tOp (rIxA K) (tVar 1) (tC (.int 2))) (tCons (tOp (rIxA K) (tVar 1) (tC (.int 3))) (tCons (tCB (rListA K) (tCons (tOp (rIxA K) (tVar 1) (tC (.int 4))) tNil)) (tCons (tCB (rListA K) (tCons (tOp (rIxA K) (tVar 1) (tC (.int 5))) tNil)) tNil)))))))) (by rfl) sc_Plan_letters.nd (pi_sq (pe_fld (pv 0) (by rfl))) (blkOk_by (N := ["self", "row"]) (sc := defScope s_Plan_letters) (by decide +kernel)) (fun _ _ _ _ _ => (pg_name (i := 1) sc_Plan_letters.nd rfl (.inl rfl))) (fun _ _ _ _ _ => pts_nil) (fun _ _ _ _ _ => (pe_tup (pa_cons (pe_ix (ix_A (hr).units) (pv 1) pe_int (fun _ _ => rfl)) (pa_cons (pe_ix (ix_A (hr).units) (pv 1) pe_int (fun _ _ => rfl)) (pa_cons (pe_ix (ix_A (hr).units) (pv 1) pe_int (fun _ _ => rfl)) (pa_cons (pe_ix (ix_A (hr).units) (pv 1) pe_int (fun _ _ => rfl)) (pa_cons (pe_callTy cr_listA (by rfl) T.b_list (by decide +kernel) (pa_cons (pe_ix (ix_A (hr).units) (pv 1) pe_int (fun _ _ => rfl)) pa_nil)) (pa_cons (pe_callTy cr_listA (by rfl) T.b_list (by decide +kernel) (pa_cons (pe_ix (ix_A (hr).units) (pv 1) pe_int (fun _ _ => rfl)) pa_nil)) pa_nil)))))))))))
theorem d_Plan_names (T : Tx K mg)   {f : Addr} {cdv : Value} {A : Around} {outer : List Env} {s : Shared} {H : Hp} {E : XK} (hr : Room (0) (A.deeper (envOfC "Plan.names" (defScope s_Plan_names) s.heap.objs.size f cdv))) :
    PSs (cxOf (L2.CX P w) P w K mg base ["self", "row"] "Plan.names" (defScope s_Plan_names) f cdv A outer s H E) (defBody s_Plan_names) (r_Plan_names K (fun cls d _ H => E cls d H)) :=
  have tk0 := takes_of (X := cxOf (L2.CX P w) P w K mg base ["self", "row"] "Plan.names" (defScope s_Plan_names) f cdv A outer s H E) (E := E) rfl rfl rfl rfl
  (pss_one (ps_ret (pe_lc (own := [("row", 1)]) (g := (gName 1)) (tt := tYes) (te := (tOp (rIxA K) (tVar 1) (tC (.int 0)))) (by rfl) sc_Plan_names.nd (pi_sq (pe_fld (pv 0) (by rfl))) (blkOk_by (N := ["self", "row"]) (sc := defScope s_Plan_names) (by decide +kernel)) (fun _ _ _ _ _ => (pg_name (i := 1) sc_Plan_names.nd rfl (.inl rfl))) (fun _ _ _ _ _ => pts_nil) (fun _ _ _ _ _ => (pe_ix (ix_A (hr).units) (pv 1) pe_int (fun _ _ => rfl))))))
theorem d_Plan_place (T : Tx K mg)  (I_BadNames : InitOk P w K mg base "BadNames" ["words"]) {f : Addr} {cdv : Value} {A : Around} {outer : List Env} {s : Shared} {H : Hp} {E : XK} (hr : Room (2) (A.deeper (envOfC "Plan.place" (defScope s_Plan_place) s.heap.objs.size f cdv))) :
    PSs (cxOf (L2.CX P w) P w K mg base ["self", "name"] "Plan.place" (defScope s_Plan_place) f cdv A outer s H E) (defBody s_Plan_place) (r_Plan_place K (fun cls d _ H => E cls d H)) :=
  have tk0 := takes_of (X := cxOf (L2.CX P w) P w K mg base ["self", "name"] "Plan.place" (defScope s_Plan_place) f cdv A outer s H E) (E := E) rfl rfl rfl rfl
  (pss_cons (ps_if (pt_cmpR (op_notInA (hr).units) (pv 1) (pe_fld (pv 0) (by rfl)) (by rfl)) (pss_one (ps_raiseX T.x_BadNames I_BadNames hr tk0 (pa_cons (pe_lst (pa_cons (pv 1) pa_nil)) pa_nil))) pss_nil)
  (pss_one (ps_ret (pe_ix (ix_A (hr).units) (pe_fld (pv 0) (by rfl)) (pv 1) (fun _ _ => rfl)))))
theorem d_Plan_holds (T : Tx K mg)   {f : Addr} {cdv : Value} {A : Around} {outer : List Env} {s : Shared} {H : Hp} {E : XK} (hr : Room (0) (A.deeper (envOfC "Plan.holds" (defScope s_Plan_holds) s.heap.objs.size f cdv))) :
    PSs (cxOf (L2.CX P w) P w K mg base ["self", "course", "yes", "no", "row", "word"] "Plan.holds" (defScope s_Plan_holds) f cdv A outer s H E) (defBody s_Plan_holds) (r_Plan_holds K (fun cls d _ H => E cls d H)) :=
  have tk0 := takes_of (X := cxOf (L2.CX P w) P w K mg base ["self", "course", "yes", "no", "row", "word"] "Plan.holds" (defScope s_Plan_holds) f cdv A outer s H E) (E := E) rfl rfl rfl rfl
  (pss_cons (ps_set (i := 4) sc_Plan_holds.nd rfl (.inl rfl) (pe_ix (ix_A (hr).units) (pe_fld (pv 0) (by rfl)) (pv 1) (fun _ _ => rfl)))
  (pss_cons (ps_for (passes_of rfl) rfl (pi_sq (pv 2)) (pg_name (i := 5) sc_Plan_holds.nd rfl (.inl rfl)) (pss_one (ps_if (pt_cmpR (op_notInA (hr).units) (pv 5) (pv 4) (by rfl)) (pss_one (ps_ret pe_bl)) pss_nil)))
  (pss_cons (ps_for (passes_of rfl) rfl (pi_sq (pv 3)) (pg_name (i := 5) sc_Plan_holds.nd rfl (.inl rfl)) (pss_one (ps_if (pt_cmpR (op_inA (hr).units) (pv 5) (pv 4) (by rfl)) (pss_one (ps_ret pe_bl)) pss_nil)))
  (pss_one (ps_ret pe_bl)))))
theorem d_Plan_carried (T : Tx K mg) (C_Plan_holds : CalM P w K mg base 1 "Plan" "holds" ["self", "course", "yes", "no"] (c_Plan_holds K)) (I_BadCourse : InitOk P w K mg base "BadCourse" ["number"]) {f : Addr} {cdv : Value} {A : Around} {outer : List Env} {s : Shared} {H : Hp} {E : XK} (hr : Room (2) (A.deeper (envOfC "Plan.carried" (defScope s_Plan_carried) s.heap.objs.size f cdv))) :
    PSs (cxOf (L2.CX P w) P w K mg base ["self", "course", "found", "number"] "Plan.carried" (defScope s_Plan_carried) f cdv A outer s H E) (defBody s_Plan_carried) (r_Plan_carried K (fun cls d _ H => E cls d H)) :=
  have tk0 := takes_of (X := cxOf (L2.CX P w) P w K mg base ["self", "course", "found", "number"] "Plan.carried" (defScope s_Plan_carried) f cdv A outer s H E) (E := E) rfl rfl rfl rfl
  (pss_cons (ps_if (pt_not (pt_chain op_leA op_ltA pe_int (pv 1) (pe_callB cr_lenA (by rfl) T.b_len (by decide +kernel) (pa_cons (pe_fld (pv 0) (by rfl)) pa_nil)))) (pss_one (ps_raiseX T.x_BadCourse I_BadCourse hr tk0 (pa_cons (pv 1) pa_nil))) pss_nil)
  (pss_cons (ps_set (i := 2) sc_Plan_carried.nd rfl (.inl rfl) (pe_lst pa_nil))
  (pss_cons (ps_for (passes_of rfl) rfl (pi_range1 (by rfl) T.b_range (pa_cons (pe_callB cr_lenA (by rfl) T.b_len (by decide +kernel) (pa_cons (pe_fld (pv 0) (by rfl)) pa_nil)) pa_nil)) (pg_name (i := 3) sc_Plan_carried.nd rfl (.inl rfl)) (pss_one (ps_if (pt_val (pe_calM C_Plan_holds hr (by decide) tk0 (pv 0) (pa_cons (pv 1) (pa_cons (pe_ix (ix_A (hr).units) (pe_ix (ix_A (hr).units) (pe_fld (pv 0) (by rfl)) (pv 3) (fun _ _ => rfl)) pe_int (fun _ _ => rfl)) (pa_cons (pe_ix (ix_A (hr).units) (pe_ix (ix_A (hr).units) (pe_fld (pv 0) (by rfl)) (pv 3) (fun _ _ => rfl)) pe_int (fun _ _ => rfl)) pa_nil))))) (pss_one (ps_expr (pe_bm PySem.F.plainAttrs_list PySem.F.slot_list_append PySem.F.type_list_append mt_append (pv 2) (pa_cons (pv 3) pa_nil)))) pss_nil)))
  (pss_one (ps_ret (pv 2))))))
end
end K07
end AB

set_option Elab.async false
set_option linter.all false
set_option maxRecDepth 100000
set_option maxHeartbeats 4000000
set_option autoImplicit false
namespace AB
open PySem L2 PySem.Spec PyProof.Rows He
namespace K07
theorem cal_false {P : Program} {w : World} {K : PySem.W.Frag} {mg : Str → Option Value} {base : Heap} {x : Str} {st : Stmt} {f : Addr} {fd : FuncData} {ps : List Str} {k : Nat} {C : Con} (F : Fun K x x st f fd) (hm : mg x = some (.ref f)) (bd : Binds K fd ps []) (hC : ∀ ss o Rt Xt, ¬C ss o Rt Xt) : Cal P w K mg base k x ps C :=
  ⟨f, fd, ⟨fun vs H Q E h => (by obtain ⟨_, _, _, _, _, _, _, c, _⟩ := h; exact absurd c (hC _ _ _ _)), fun A outer s H args us vs Q E _ _ _ _ h => (by obtain ⟨_, _, _, _, _, _, _, c, _⟩ := h; exact absurd c (hC _ _ _ _))⟩, hm, F.kp, bd⟩
theorem sc_i_TooMany : FnScope ["self", "what"] ["self", "what"] (defScope (initOf s_TooMany)) := ⟨rfl, rfl, rfl, by decide +kernel, rfl, by decide +kernel, by decide +kernel⟩
theorem ok_TooMany {P : Program} {w : World} {K : PySem.W.Frag} {mg : Str → Option Value} {base : Heap} (T : Tx K mg) {fd : FuncData} (F : FunD K "__init__" "TooMany.__init__" (defArgs (initOf s_TooMany)) (defBody (initOf s_TooMany)) (defScope (initOf s_TooMany)) [] [] (ma K (He.ga K "TooMany") "__init__") fd) : InitOk P w K mg base "TooMany" ["what"] :=
  ⟨fd, ["self", "what"], Fun.okX (He5.fun_of F) sc_i_TooMany (init_len rfl) (fun cdv A outer s H vs Q E hr h => ⟨_, pss_cons (ps_expr (pe_apI T.apart rfl (pa_cons (pv 0) (pa_cons pe_str pa_nil)))) (pss_one (ps_ost (pv 0) (pv 1))), init1 rfl T.x_TooMany.ox (T.x_TooMany.no _ (by decide)) h⟩), F.bindsN fun _ _ _ _ _ _ us hl => match us, hl with | [_, _], _ => rfl⟩

theorem sc_i_BadPlan : FnScope ["self", "what", "number"] ["self", "what", "number"] (defScope (initOf s_BadPlan)) := ⟨rfl, rfl, rfl, by decide +kernel, rfl, by decide +kernel, by decide +kernel⟩
theorem ok_BadPlan {P : Program} {w : World} {K : PySem.W.Frag} {mg : Str → Option Value} {base : Heap} (T : Tx K mg) {fd : FuncData} (F : FunD K "__init__" "BadPlan.__init__" (defArgs (initOf s_BadPlan)) (defBody (initOf s_BadPlan)) (defScope (initOf s_BadPlan)) [] [] (ma K (He.ga K "BadPlan") "__init__") fd) : InitOk P w K mg base "BadPlan" ["what", "number"] :=
  ⟨fd, ["self", "what", "number"], Fun.okX (He5.fun_of F) sc_i_BadPlan (init_len rfl) (fun cdv A outer s H vs Q E hr h => ⟨_, pss_cons (ps_expr (pe_apI T.apart rfl (pa_cons (pv 0) (pa_cons pe_str pa_nil)))) (pss_cons (ps_ost (pv 0) (pv 1)) (pss_one (ps_ost (pv 0) (pv 2)))), init2 rfl T.x_BadPlan.ox (T.x_BadPlan.no _ (by decide)) (T.x_BadPlan.no _ (by decide)) h⟩), F.bindsN fun _ _ _ _ _ _ us hl => match us, hl with | [_, _, _], _ => rfl⟩

theorem sc_i_BadCourse : FnScope ["self", "number"] ["self", "number"] (defScope (initOf s_BadCourse)) := ⟨rfl, rfl, rfl, by decide +kernel, rfl, by decide +kernel, by decide +kernel⟩
theorem ok_BadCourse {P : Program} {w : World} {K : PySem.W.Frag} {mg : Str → Option Value} {base : Heap} (T : Tx K mg) {fd : FuncData} (F : FunD K "__init__" "BadCourse.__init__" (defArgs (initOf s_BadCourse)) (defBody (initOf s_BadCourse)) (defScope (initOf s_BadCourse)) [] [] (ma K (He.ga K "BadCourse") "__init__") fd) : InitOk P w K mg base "BadCourse" ["number"] :=
  ⟨fd, ["self", "number"], Fun.okX (He5.fun_of F) sc_i_BadCourse (init_len rfl) (fun cdv A outer s H vs Q E hr h => ⟨_, pss_cons (ps_expr (pe_apI T.apart rfl (pa_cons (pv 0) (pa_cons pe_str pa_nil)))) (pss_one (ps_ost (pv 0) (pv 1))), init1 rfl T.x_BadCourse.ox (T.x_BadCourse.no _ (by decide)) h⟩), F.bindsN fun _ _ _ _ _ _ us hl => match us, hl with | [_, _], _ => rfl⟩

theorem sc_i_BadMoment : FnScope ["self", "moment"] ["self", "moment"] (defScope (initOf s_BadMoment)) := ⟨rfl, rfl, rfl, by decide +kernel, rfl, by decide +kernel, by decide +kernel⟩
theorem ok_BadMoment {P : Program} {w : World} {K : PySem.W.Frag} {mg : Str → Option Value} {base : Heap} (T : Tx K mg) {fd : FuncData} (F : FunD K "__init__" "BadMoment.__init__" (defArgs (initOf s_BadMoment)) (defBody (initOf s_BadMoment)) (defScope (initOf s_BadMoment)) [] [] (ma K (He.ga K "BadMoment") "__init__") fd) : InitOk P w K mg base "BadMoment" ["moment"] :=
  ⟨fd, ["self", "moment"], Fun.okX (He5.fun_of F) sc_i_BadMoment (init_len rfl) (fun cdv A outer s H vs Q E hr h => ⟨_, pss_cons (ps_expr (pe_apI T.apart rfl (pa_cons (pv 0) (pa_cons pe_str pa_nil)))) (pss_one (ps_ost (pv 0) (pv 1))), init1 rfl T.x_BadMoment.ox (T.x_BadMoment.no _ (by decide)) h⟩), F.bindsN fun _ _ _ _ _ _ us hl => match us, hl with | [_, _], _ => rfl⟩

theorem sc_i_BadNames : FnScope ["self", "words"] ["self", "words"] (defScope (initOf s_BadNames)) := ⟨rfl, rfl, rfl, by decide +kernel, rfl, by decide +kernel, by decide +kernel⟩
theorem ok_BadNames {P : Program} {w : World} {K : PySem.W.Frag} {mg : Str → Option Value} {base : Heap} (T : Tx K mg) {fd : FuncData} (F : FunD K "__init__" "BadNames.__init__" (defArgs (initOf s_BadNames)) (defBody (initOf s_BadNames)) (defScope (initOf s_BadNames)) [] [] (ma K (He.ga K "BadNames") "__init__") fd) : InitOk P w K mg base "BadNames" ["words"] :=
  ⟨fd, ["self", "words"], Fun.okX (He5.fun_of F) sc_i_BadNames (init_len rfl) (fun cdv A outer s H vs Q E hr h => ⟨_, pss_cons (ps_expr (pe_apI T.apart rfl (pa_cons (pv 0) (pa_cons pe_str pa_nil)))) (pss_one (ps_ost (pv 0) (pv 1))), init1 rfl T.x_BadNames.ox (T.x_BadNames.no _ (by decide)) h⟩), F.bindsN fun _ _ _ _ _ _ us hl => match us, hl with | [_, _], _ => rfl⟩

theorem tx {K : PySem.W.Frag} {h : Heap} {mg : Str → Option Value} (X : K.In h) (G : h.Ns mainGlobals mg) (c : He.SaysD fa fn K) (e : ex K = true) : Tx K mg := by
  obtain ⟨e_TooMany, e⟩ := Bool.and_eq_true_iff.mp e
  obtain ⟨e_BadPlan, e⟩ := Bool.and_eq_true_iff.mp e
  obtain ⟨e_BadCourse, e⟩ := Bool.and_eq_true_iff.mp e
  obtain ⟨e_BadMoment, e⟩ := Bool.and_eq_true_iff.mp e
  obtain ⟨e_BadNames, e⟩ := Bool.and_eq_true_iff.mp e
  exact {
    b_abs := He.free_ok X G (c.fact 44 (f := .free "abs") rfl)
    b_bool := He.free_ok X G (c.fact 45 (f := .free "bool") rfl)
    b_int := He.free_ok X G (c.fact 46 (f := .free "int") rfl)
    b_isinstance := He.free_ok X G (c.fact 47 (f := .free "isinstance") rfl)
    b_len := He.free_ok X G (c.fact 48 (f := .free "len") rfl)
    b_list := He.free_ok X G (c.fact 49 (f := .free "list") rfl)
    b_min := He.free_ok X G (c.fact 50 (f := .free "min") rfl)
    b_range := He.free_ok X G (c.fact 51 (f := .free "range") rfl)
    b_str := He.free_ok X G (c.fact 52 (f := .free "str") rfl)
    b_sum := He.free_ok X G (c.fact 53 (f := .free "sum") rfl)
    b_tuple := He.free_ok X G (c.fact 54 (f := .free "tuple") rfl)
    n_COURSES := by
      obtain ⟨t, z⟩ := He.int_ok X G (c.fact 55 (f := .int "COURSES" (12)) rfl)
      exact ⟨_, z, ⟨t, rfl⟩⟩
    n_DECISIONS := by
      obtain ⟨t, z⟩ := He.int_ok X G (c.fact 56 (f := .int "DECISIONS" (40)) rfl)
      exact ⟨_, z, ⟨t, rfl⟩⟩
    n_FIRSTS := by
      obtain ⟨t, z⟩ := He.str_ok X G (c.fact 57 (f := .str "FIRSTS" "abcdefghijklmnopqrstuvwxyz") rfl)
      exact ⟨_, z, ⟨t, rfl⟩⟩
    n_HELPERS := by
      obtain ⟨t, z⟩ := He.int_ok X G (c.fact 58 (f := .int "HELPERS" (8)) rfl)
      exact ⟨_, z, ⟨t, rfl⟩⟩
    n_LETTERS := by
      obtain ⟨t, z⟩ := He.int_ok X G (c.fact 59 (f := .int "LETTERS" (160)) rfl)
      exact ⟨_, z, ⟨t, rfl⟩⟩
    n_MISHAPS := by
      obtain ⟨t, z⟩ := He.int_ok X G (c.fact 60 (f := .int "MISHAPS" (6)) rfl)
      exact ⟨_, z, ⟨t, rfl⟩⟩
    n_MOMENTS := by
      obtain ⟨t, z⟩ := He.int_ok X G (c.fact 61 (f := .int "MOMENTS" (24)) rfl)
      exact ⟨_, z, ⟨t, rfl⟩⟩
    n_NUMBERS := by
      obtain ⟨t, z⟩ := He.int_ok X G (c.fact 62 (f := .int "NUMBERS" (1000000000)) rfl)
      exact ⟨_, z, ⟨t, rfl⟩⟩
    n_REST := by
      obtain ⟨t, z⟩ := He.str_ok X G (c.fact 63 (f := .str "REST" "abcdefghijklmnopqrstuvwxyz0123456789.") rfl)
      exact ⟨_, z, ⟨t, rfl⟩⟩
    n_RULES := by
      obtain ⟨t, z⟩ := He.int_ok X G (c.fact 64 (f := .int "RULES" (200)) rfl)
      exact ⟨_, z, ⟨t, rfl⟩⟩
    n_SIGHTS := by
      obtain ⟨t, z⟩ := He.int_ok X G (c.fact 65 (f := .int "SIGHTS" (24)) rfl)
      exact ⟨_, z, ⟨t, rfl⟩⟩
    n_STARTS := by
      obtain ⟨t, z⟩ := He.int_ok X G (c.fact 66 (f := .int "STARTS" (24)) rfl)
      exact ⟨_, z, ⟨t, rfl⟩⟩
    n_WORD_LENGTH := by
      obtain ⟨t, z⟩ := He.int_ok X G (c.fact 67 (f := .int "WORD_LENGTH" (12)) rfl)
      exact ⟨_, z, ⟨t, rfl⟩⟩
    n_Plan := ⟨_, He.glo_ok X G (c.fact 94 (f := .glo "Plan") rfl), rfl⟩
    x_TooMany := exfB_ok X G e_TooMany
    x_BadPlan := exfB_ok X G e_BadPlan
    x_BadCourse := exfB_ok X G e_BadCourse
    x_BadMoment := exfB_ok X G e_BadMoment
    x_BadNames := exfB_ok X G e_BadNames
    c_Plan := He.cls_ok (c.fact 93 (f := .cls "Plan") rfl)
    na_Plan_course_rows := He.noat_ok (c.fact 96 (f := .noat "Plan" "course_rows") rfl)
    na_Plan_decision_places := He.noat_ok (c.fact 97 (f := .noat "Plan" "decision_places") rfl)
    na_Plan_decision_rows := He.noat_ok (c.fact 98 (f := .noat "Plan" "decision_rows") rfl)
    na_Plan_helper_count := He.noat_ok (c.fact 99 (f := .noat "Plan" "helper_count") rfl)
    na_Plan_last_moment := He.noat_ok (c.fact 100 (f := .noat "Plan" "last_moment") rfl)
    na_Plan_letter_rows := He.noat_ok (c.fact 101 (f := .noat "Plan" "letter_rows") rfl)
    na_Plan_mishap_words := He.noat_ok (c.fact 102 (f := .noat "Plan" "mishap_words") rfl)
    na_Plan_rule_rows := He.noat_ok (c.fact 103 (f := .noat "Plan" "rule_rows") rfl)
    na_Plan_sight_rows := He.noat_ok (c.fact 104 (f := .noat "Plan" "sight_rows") rfl)
    apart := apartB_ok X G e
    m_TooMany_TooMany := He.exm_ok (c.fact 68 (f := .exm "TooMany" "TooMany" true) rfl)
    m_TooMany_BadPlan := He.exm_ok (c.fact 69 (f := .exm "TooMany" "BadPlan" false) rfl)
    m_TooMany_BadCourse := He.exm_ok (c.fact 70 (f := .exm "TooMany" "BadCourse" false) rfl)
    m_TooMany_BadMoment := He.exm_ok (c.fact 71 (f := .exm "TooMany" "BadMoment" false) rfl)
    m_TooMany_BadNames := He.exm_ok (c.fact 72 (f := .exm "TooMany" "BadNames" false) rfl)
    m_BadPlan_TooMany := He.exm_ok (c.fact 73 (f := .exm "BadPlan" "TooMany" false) rfl)
    m_BadPlan_BadPlan := He.exm_ok (c.fact 74 (f := .exm "BadPlan" "BadPlan" true) rfl)
    m_BadPlan_BadCourse := He.exm_ok (c.fact 75 (f := .exm "BadPlan" "BadCourse" false) rfl)
    m_BadPlan_BadMoment := He.exm_ok (c.fact 76 (f := .exm "BadPlan" "BadMoment" false) rfl)
    m_BadPlan_BadNames := He.exm_ok (c.fact 77 (f := .exm "BadPlan" "BadNames" false) rfl)
    m_BadCourse_TooMany := He.exm_ok (c.fact 78 (f := .exm "BadCourse" "TooMany" false) rfl)
    m_BadCourse_BadPlan := He.exm_ok (c.fact 79 (f := .exm "BadCourse" "BadPlan" false) rfl)
    m_BadCourse_BadCourse := He.exm_ok (c.fact 80 (f := .exm "BadCourse" "BadCourse" true) rfl)
    m_BadCourse_BadMoment := He.exm_ok (c.fact 81 (f := .exm "BadCourse" "BadMoment" false) rfl)
    m_BadCourse_BadNames := He.exm_ok (c.fact 82 (f := .exm "BadCourse" "BadNames" false) rfl)
    m_BadMoment_TooMany := He.exm_ok (c.fact 83 (f := .exm "BadMoment" "TooMany" false) rfl)
    m_BadMoment_BadPlan := He.exm_ok (c.fact 84 (f := .exm "BadMoment" "BadPlan" false) rfl)
    m_BadMoment_BadCourse := He.exm_ok (c.fact 85 (f := .exm "BadMoment" "BadCourse" false) rfl)
    m_BadMoment_BadMoment := He.exm_ok (c.fact 86 (f := .exm "BadMoment" "BadMoment" true) rfl)
    m_BadMoment_BadNames := He.exm_ok (c.fact 87 (f := .exm "BadMoment" "BadNames" false) rfl)
    m_BadNames_TooMany := He.exm_ok (c.fact 88 (f := .exm "BadNames" "TooMany" false) rfl)
    m_BadNames_BadPlan := He.exm_ok (c.fact 89 (f := .exm "BadNames" "BadPlan" false) rfl)
    m_BadNames_BadCourse := He.exm_ok (c.fact 90 (f := .exm "BadNames" "BadCourse" false) rfl)
    m_BadNames_BadMoment := He.exm_ok (c.fact 91 (f := .exm "BadNames" "BadMoment" false) rfl)
    m_BadNames_BadNames := He.exm_ok (c.fact 92 (f := .exm "BadNames" "BadNames" true) rfl) }
theorem law_ok {P : Program} {w : World} {K : PySem.W.Frag} {h : Heap} {mg : Str → Option Value} {base : Heap} (X : K.In h) (G : h.Ns mainGlobals mg) (c : He.SaysD fa fn K) (e : ex K = true) {fd : FuncData} (FL : FunD K "law" "law" (defArgs s_law) (defBody s_law) (defScope s_law) [] [] (He.ga K "law") fd) :
    FnOk P w K mg base (L2.CX P w) 10 (He.ga K "law") fd ["script"] (spLaw K) := by
  have T := tx X G c e
  obtain ⟨fd_TooMany, F_TooMany⟩ := c.def_ 54 (d := D_TooMany) rfl
  have I_TooMany : InitOk P w K mg base "TooMany" ["what"] := ok_TooMany T F_TooMany
  obtain ⟨fd_BadPlan, F_BadPlan⟩ := c.def_ 55 (d := D_BadPlan) rfl
  have I_BadPlan : InitOk P w K mg base "BadPlan" ["what", "number"] := ok_BadPlan T F_BadPlan
  obtain ⟨fd_BadCourse, F_BadCourse⟩ := c.def_ 56 (d := D_BadCourse) rfl
  have I_BadCourse : InitOk P w K mg base "BadCourse" ["number"] := ok_BadCourse T F_BadCourse
  obtain ⟨fd_BadMoment, F_BadMoment⟩ := c.def_ 57 (d := D_BadMoment) rfl
  have I_BadMoment : InitOk P w K mg base "BadMoment" ["moment"] := ok_BadMoment T F_BadMoment
  obtain ⟨fd_BadNames, F_BadNames⟩ := c.def_ 58 (d := D_BadNames) rfl
  have I_BadNames : InitOk P w K mg base "BadNames" ["words"] := ok_BadNames T F_BadNames
  obtain ⟨fd_check_most, F0_check_most⟩ := c.def_ 0 (d := D_check_most) rfl
  have F_check_most : FunD K "check_most" "check_most" (defArgs s_check_most) (defBody s_check_most) (defScope s_check_most) [] [] (He.ga K "check_most") fd_check_most := F0_check_most
  have C_check_most : Cal P w K mg base 3 "check_most" ["what", "many", "most"] (c_check_most K) := cal_of (t := r_check_most K) (He5.fun_of F_check_most) sc_check_most (He.glo_ok X G (c.fact 0 (f := .glo "check_most") rfl)) (FunD.bindsN (ps := ["what", "many", "most"]) F_check_most fun _ _ _ _ _ _ us hl => match us, hl with | [_, _, _], _ => rfl) (fun ss o Rt Xt c => by first | (obtain ⟨rfl, _⟩ := c; rfl) | (obtain ⟨_, rfl, _⟩ := c; rfl) | (obtain ⟨_, _, rfl, _⟩ := c; rfl) | (obtain ⟨_, _, _, rfl, _⟩ := c; rfl) | (obtain ⟨_, _, _, _, rfl, _⟩ := c; rfl) | (obtain ⟨_, _, _, _, _, rfl, _⟩ := c; rfl) | (obtain ⟨_, _, _, _, _, _, rfl, _⟩ := c; rfl) | (obtain ⟨_, _, _, _, _, _, _, rfl, _⟩ := c; rfl) | (obtain ⟨_, _, _, _, _, _, _, _, rfl, _⟩ := c; rfl) | (obtain ⟨_, _, _, _, _, _, _, _, _, rfl, _⟩ := c; rfl) | (obtain ⟨_, _, _, _, _, _, _, _, _, _, rfl, _⟩ := c; rfl) | (obtain ⟨_, _, _, _, _, _, _, _, _, _, _, rfl, _⟩ := c; rfl) | (obtain ⟨_, _, _, _, _, _, _, _, _, _, _, _, rfl, _⟩ := c; rfl) | (obtain ⟨_, _, _, _, _, _, _, _, _, _, _, _, _, rfl, _⟩ := c; rfl) | (obtain ⟨_, _, _, _, _, _, _, _, _, _, _, _, _, _, rfl, _⟩ := c; rfl) | (obtain ⟨_, _, _, _, _, _, _, _, _, _, _, _, _, _, _, rfl, _⟩ := c; rfl)) (fun hr => d_check_most T  I_TooMany hr) (fun B W ss o Rt Xt hB c hX => w_check_most c hX)
  obtain ⟨fd_check_numbers, F0_check_numbers⟩ := c.def_ 1 (d := D_check_numbers) rfl
  have F_check_numbers : FunD K "check_numbers" "check_numbers" (defArgs s_check_numbers) (defBody s_check_numbers) (defScope s_check_numbers) [] [] (He.ga K "check_numbers") fd_check_numbers := F0_check_numbers
  have C_check_numbers : Cal P w K mg base 3 "check_numbers" ["numbers", "most"] (c_check_numbers K) := cal_of (t := r_check_numbers K) (He5.fun_of F_check_numbers) sc_check_numbers (He.glo_ok X G (c.fact 1 (f := .glo "check_numbers") rfl)) (FunD.bindsN (ps := ["numbers", "most"]) F_check_numbers fun _ _ _ _ _ _ us hl => match us, hl with | [_, _], _ => rfl) (fun ss o Rt Xt c => by first | (obtain ⟨rfl, _⟩ := c; rfl) | (obtain ⟨_, rfl, _⟩ := c; rfl) | (obtain ⟨_, _, rfl, _⟩ := c; rfl) | (obtain ⟨_, _, _, rfl, _⟩ := c; rfl) | (obtain ⟨_, _, _, _, rfl, _⟩ := c; rfl) | (obtain ⟨_, _, _, _, _, rfl, _⟩ := c; rfl) | (obtain ⟨_, _, _, _, _, _, rfl, _⟩ := c; rfl) | (obtain ⟨_, _, _, _, _, _, _, rfl, _⟩ := c; rfl) | (obtain ⟨_, _, _, _, _, _, _, _, rfl, _⟩ := c; rfl) | (obtain ⟨_, _, _, _, _, _, _, _, _, rfl, _⟩ := c; rfl) | (obtain ⟨_, _, _, _, _, _, _, _, _, _, rfl, _⟩ := c; rfl) | (obtain ⟨_, _, _, _, _, _, _, _, _, _, _, rfl, _⟩ := c; rfl) | (obtain ⟨_, _, _, _, _, _, _, _, _, _, _, _, rfl, _⟩ := c; rfl) | (obtain ⟨_, _, _, _, _, _, _, _, _, _, _, _, _, rfl, _⟩ := c; rfl) | (obtain ⟨_, _, _, _, _, _, _, _, _, _, _, _, _, _, rfl, _⟩ := c; rfl) | (obtain ⟨_, _, _, _, _, _, _, _, _, _, _, _, _, _, _, rfl, _⟩ := c; rfl)) (fun hr => d_check_numbers T  I_TooMany hr) (fun B W ss o Rt Xt hB c hX => w_check_numbers c hX)
  obtain ⟨fd_check_name, F0_check_name⟩ := c.def_ 2 (d := D_check_name) rfl
  have F_check_name : FunD K "check_name" "check_name" (defArgs s_check_name) (defBody s_check_name) (defScope s_check_name) [] [] (He.ga K "check_name") fd_check_name := F0_check_name
  have C_check_name : Cal P w K mg base 3 "check_name" ["plan", "name"] (c_check_name K) := cal_of (t := r_check_name K) (He5.fun_of F_check_name) sc_check_name (He.glo_ok X G (c.fact 2 (f := .glo "check_name") rfl)) (FunD.bindsN (ps := ["plan", "name"]) F_check_name fun _ _ _ _ _ _ us hl => match us, hl with | [_, _], _ => rfl) (fun ss o Rt Xt c => by first | (obtain ⟨rfl, _⟩ := c; rfl) | (obtain ⟨_, rfl, _⟩ := c; rfl) | (obtain ⟨_, _, rfl, _⟩ := c; rfl) | (obtain ⟨_, _, _, rfl, _⟩ := c; rfl) | (obtain ⟨_, _, _, _, rfl, _⟩ := c; rfl) | (obtain ⟨_, _, _, _, _, rfl, _⟩ := c; rfl) | (obtain ⟨_, _, _, _, _, _, rfl, _⟩ := c; rfl) | (obtain ⟨_, _, _, _, _, _, _, rfl, _⟩ := c; rfl) | (obtain ⟨_, _, _, _, _, _, _, _, rfl, _⟩ := c; rfl) | (obtain ⟨_, _, _, _, _, _, _, _, _, rfl, _⟩ := c; rfl) | (obtain ⟨_, _, _, _, _, _, _, _, _, _, rfl, _⟩ := c; rfl) | (obtain ⟨_, _, _, _, _, _, _, _, _, _, _, rfl, _⟩ := c; rfl) | (obtain ⟨_, _, _, _, _, _, _, _, _, _, _, _, rfl, _⟩ := c; rfl) | (obtain ⟨_, _, _, _, _, _, _, _, _, _, _, _, _, rfl, _⟩ := c; rfl) | (obtain ⟨_, _, _, _, _, _, _, _, _, _, _, _, _, _, rfl, _⟩ := c; rfl) | (obtain ⟨_, _, _, _, _, _, _, _, _, _, _, _, _, _, _, rfl, _⟩ := c; rfl)) (fun hr => d_check_name T  I_BadNames hr) (fun B W ss o Rt Xt hB c hX => w_check_name T c hX)
  obtain ⟨fd_check_moment, F0_check_moment⟩ := c.def_ 3 (d := D_check_moment) rfl
  have F_check_moment : FunD K "check_moment" "check_moment" (defArgs s_check_moment) (defBody s_check_moment) (defScope s_check_moment) [] [] (He.ga K "check_moment") fd_check_moment := F0_check_moment
  have C_check_moment : Cal P w K mg base 3 "check_moment" ["plan", "moment"] (c_check_moment K) := cal_of (t := r_check_moment K) (He5.fun_of F_check_moment) sc_check_moment (He.glo_ok X G (c.fact 3 (f := .glo "check_moment") rfl)) (FunD.bindsN (ps := ["plan", "moment"]) F_check_moment fun _ _ _ _ _ _ us hl => match us, hl with | [_, _], _ => rfl) (fun ss o Rt Xt c => by first | (obtain ⟨rfl, _⟩ := c; rfl) | (obtain ⟨_, rfl, _⟩ := c; rfl) | (obtain ⟨_, _, rfl, _⟩ := c; rfl) | (obtain ⟨_, _, _, rfl, _⟩ := c; rfl) | (obtain ⟨_, _, _, _, rfl, _⟩ := c; rfl) | (obtain ⟨_, _, _, _, _, rfl, _⟩ := c; rfl) | (obtain ⟨_, _, _, _, _, _, rfl, _⟩ := c; rfl) | (obtain ⟨_, _, _, _, _, _, _, rfl, _⟩ := c; rfl) | (obtain ⟨_, _, _, _, _, _, _, _, rfl, _⟩ := c; rfl) | (obtain ⟨_, _, _, _, _, _, _, _, _, rfl, _⟩ := c; rfl) | (obtain ⟨_, _, _, _, _, _, _, _, _, _, rfl, _⟩ := c; rfl) | (obtain ⟨_, _, _, _, _, _, _, _, _, _, _, rfl, _⟩ := c; rfl) | (obtain ⟨_, _, _, _, _, _, _, _, _, _, _, _, rfl, _⟩ := c; rfl) | (obtain ⟨_, _, _, _, _, _, _, _, _, _, _, _, _, rfl, _⟩ := c; rfl) | (obtain ⟨_, _, _, _, _, _, _, _, _, _, _, _, _, _, rfl, _⟩ := c; rfl) | (obtain ⟨_, _, _, _, _, _, _, _, _, _, _, _, _, _, _, rfl, _⟩ := c; rfl)) (fun hr => d_check_moment T  I_BadMoment hr) (fun B W ss o Rt Xt hB c hX => w_check_moment T c hX)
  obtain ⟨fd_check_helper, F0_check_helper⟩ := c.def_ 4 (d := D_check_helper) rfl
  have F_check_helper : FunD K "check_helper" "check_helper" (defArgs s_check_helper) (defBody s_check_helper) (defScope s_check_helper) [] [] (He.ga K "check_helper") fd_check_helper := F0_check_helper
  have C_check_helper : Cal P w K mg base 3 "check_helper" ["plan", "helper"] (c_check_helper K) := cal_of (t := r_check_helper K) (He5.fun_of F_check_helper) sc_check_helper (He.glo_ok X G (c.fact 4 (f := .glo "check_helper") rfl)) (FunD.bindsN (ps := ["plan", "helper"]) F_check_helper fun _ _ _ _ _ _ us hl => match us, hl with | [_, _], _ => rfl) (fun ss o Rt Xt c => by first | (obtain ⟨rfl, _⟩ := c; rfl) | (obtain ⟨_, rfl, _⟩ := c; rfl) | (obtain ⟨_, _, rfl, _⟩ := c; rfl) | (obtain ⟨_, _, _, rfl, _⟩ := c; rfl) | (obtain ⟨_, _, _, _, rfl, _⟩ := c; rfl) | (obtain ⟨_, _, _, _, _, rfl, _⟩ := c; rfl) | (obtain ⟨_, _, _, _, _, _, rfl, _⟩ := c; rfl) | (obtain ⟨_, _, _, _, _, _, _, rfl, _⟩ := c; rfl) | (obtain ⟨_, _, _, _, _, _, _, _, rfl, _⟩ := c; rfl) | (obtain ⟨_, _, _, _, _, _, _, _, _, rfl, _⟩ := c; rfl) | (obtain ⟨_, _, _, _, _, _, _, _, _, _, rfl, _⟩ := c; rfl) | (obtain ⟨_, _, _, _, _, _, _, _, _, _, _, rfl, _⟩ := c; rfl) | (obtain ⟨_, _, _, _, _, _, _, _, _, _, _, _, rfl, _⟩ := c; rfl) | (obtain ⟨_, _, _, _, _, _, _, _, _, _, _, _, _, rfl, _⟩ := c; rfl) | (obtain ⟨_, _, _, _, _, _, _, _, _, _, _, _, _, _, rfl, _⟩ := c; rfl) | (obtain ⟨_, _, _, _, _, _, _, _, _, _, _, _, _, _, _, rfl, _⟩ := c; rfl)) (fun hr => d_check_helper T  I_BadMoment hr) (fun B W ss o Rt Xt hB c hX => w_check_helper T c hX)
  obtain ⟨fd_Plan_holds, F0_Plan_holds⟩ := c.def_ 52 (d := D_Plan_holds) rfl
  have F_Plan_holds : FunD K "holds" "Plan.holds" (defArgs s_Plan_holds) (defBody s_Plan_holds) (defScope s_Plan_holds) [] [] (ma K (He.ga K "Plan") "holds") fd_Plan_holds := F0_Plan_holds
  have C_Plan_holds : CalM P w K mg base 1 "Plan" "holds" ["self", "course", "yes", "no"] (c_Plan_holds K) := ⟨fd_Plan_holds, fn_of_con (t := r_Plan_holds K) (He5.fun_of F_Plan_holds) sc_Plan_holds (fun ss o Rt Xt c => by first | (obtain ⟨rfl, _⟩ := c; rfl) | (obtain ⟨_, rfl, _⟩ := c; rfl) | (obtain ⟨_, _, rfl, _⟩ := c; rfl) | (obtain ⟨_, _, _, rfl, _⟩ := c; rfl) | (obtain ⟨_, _, _, _, rfl, _⟩ := c; rfl) | (obtain ⟨_, _, _, _, _, rfl, _⟩ := c; rfl) | (obtain ⟨_, _, _, _, _, _, rfl, _⟩ := c; rfl) | (obtain ⟨_, _, _, _, _, _, _, rfl, _⟩ := c; rfl) | (obtain ⟨_, _, _, _, _, _, _, _, rfl, _⟩ := c; rfl) | (obtain ⟨_, _, _, _, _, _, _, _, _, rfl, _⟩ := c; rfl) | (obtain ⟨_, _, _, _, _, _, _, _, _, _, rfl, _⟩ := c; rfl) | (obtain ⟨_, _, _, _, _, _, _, _, _, _, _, rfl, _⟩ := c; rfl) | (obtain ⟨_, _, _, _, _, _, _, _, _, _, _, _, rfl, _⟩ := c; rfl) | (obtain ⟨_, _, _, _, _, _, _, _, _, _, _, _, _, rfl, _⟩ := c; rfl) | (obtain ⟨_, _, _, _, _, _, _, _, _, _, _, _, _, _, rfl, _⟩ := c; rfl) | (obtain ⟨_, _, _, _, _, _, _, _, _, _, _, _, _, _, _, rfl, _⟩ := c; rfl)) (fun hr => d_Plan_holds T   hr) (fun B W ss o Rt Xt hB c hX => w_Plan_holds T c), He.meth_ok (c.fact 112 (f := .meth "Plan" "holds") rfl), T.c_Plan, (FunD.bindsN (ps := ["self", "course", "yes", "no"]) F_Plan_holds fun _ _ _ _ _ _ us hl => match us, hl with | [_, _, _, _], _ => rfl)⟩
  obtain ⟨fd_Plan_carried, F0_Plan_carried⟩ := c.def_ 53 (d := D_Plan_carried) rfl
  have F_Plan_carried : FunD K "carried" "Plan.carried" (defArgs s_Plan_carried) (defBody s_Plan_carried) (defScope s_Plan_carried) [] [] (ma K (He.ga K "Plan") "carried") fd_Plan_carried := F0_Plan_carried
  have C_Plan_carried : CalM P w K mg base 3 "Plan" "carried" ["self", "course"] (c_Plan_carried K) := ⟨fd_Plan_carried, fn_of_con (t := r_Plan_carried K) (He5.fun_of F_Plan_carried) sc_Plan_carried (fun ss o Rt Xt c => by first | (obtain ⟨rfl, _⟩ := c; rfl) | (obtain ⟨_, rfl, _⟩ := c; rfl) | (obtain ⟨_, _, rfl, _⟩ := c; rfl) | (obtain ⟨_, _, _, rfl, _⟩ := c; rfl) | (obtain ⟨_, _, _, _, rfl, _⟩ := c; rfl) | (obtain ⟨_, _, _, _, _, rfl, _⟩ := c; rfl) | (obtain ⟨_, _, _, _, _, _, rfl, _⟩ := c; rfl) | (obtain ⟨_, _, _, _, _, _, _, rfl, _⟩ := c; rfl) | (obtain ⟨_, _, _, _, _, _, _, _, rfl, _⟩ := c; rfl) | (obtain ⟨_, _, _, _, _, _, _, _, _, rfl, _⟩ := c; rfl) | (obtain ⟨_, _, _, _, _, _, _, _, _, _, rfl, _⟩ := c; rfl) | (obtain ⟨_, _, _, _, _, _, _, _, _, _, _, rfl, _⟩ := c; rfl) | (obtain ⟨_, _, _, _, _, _, _, _, _, _, _, _, rfl, _⟩ := c; rfl) | (obtain ⟨_, _, _, _, _, _, _, _, _, _, _, _, _, rfl, _⟩ := c; rfl) | (obtain ⟨_, _, _, _, _, _, _, _, _, _, _, _, _, _, rfl, _⟩ := c; rfl) | (obtain ⟨_, _, _, _, _, _, _, _, _, _, _, _, _, _, _, rfl, _⟩ := c; rfl)) (fun hr => d_Plan_carried T C_Plan_holds I_BadCourse hr) (fun B W ss o Rt Xt hB c hX => w_Plan_carried T hB c hX), He.meth_ok (c.fact 113 (f := .meth "Plan" "carried") rfl), T.c_Plan, (FunD.bindsN (ps := ["self", "course"]) F_Plan_carried fun _ _ _ _ _ _ us hl => match us, hl with | [_, _], _ => rfl)⟩
  obtain ⟨fd_Plan_helpers, F0_Plan_helpers⟩ := c.def_ 46 (d := D_Plan_helpers) rfl
  have F_Plan_helpers : FunD K "helpers" "Plan.helpers" (defArgs s_Plan_helpers) (defBody s_Plan_helpers) (defScope s_Plan_helpers) [] [] (ma K (He.ga K "Plan") "helpers") fd_Plan_helpers := F0_Plan_helpers
  have C_Plan_helpers : CalM P w K mg base 1 "Plan" "helpers" ["self"] (c_Plan_helpers K) := ⟨fd_Plan_helpers, fn_of_con (t := r_Plan_helpers K) (He5.fun_of F_Plan_helpers) sc_Plan_helpers (fun ss o Rt Xt c => by first | (obtain ⟨rfl, _⟩ := c; rfl) | (obtain ⟨_, rfl, _⟩ := c; rfl) | (obtain ⟨_, _, rfl, _⟩ := c; rfl) | (obtain ⟨_, _, _, rfl, _⟩ := c; rfl) | (obtain ⟨_, _, _, _, rfl, _⟩ := c; rfl) | (obtain ⟨_, _, _, _, _, rfl, _⟩ := c; rfl) | (obtain ⟨_, _, _, _, _, _, rfl, _⟩ := c; rfl) | (obtain ⟨_, _, _, _, _, _, _, rfl, _⟩ := c; rfl) | (obtain ⟨_, _, _, _, _, _, _, _, rfl, _⟩ := c; rfl) | (obtain ⟨_, _, _, _, _, _, _, _, _, rfl, _⟩ := c; rfl) | (obtain ⟨_, _, _, _, _, _, _, _, _, _, rfl, _⟩ := c; rfl) | (obtain ⟨_, _, _, _, _, _, _, _, _, _, _, rfl, _⟩ := c; rfl) | (obtain ⟨_, _, _, _, _, _, _, _, _, _, _, _, rfl, _⟩ := c; rfl) | (obtain ⟨_, _, _, _, _, _, _, _, _, _, _, _, _, rfl, _⟩ := c; rfl) | (obtain ⟨_, _, _, _, _, _, _, _, _, _, _, _, _, _, rfl, _⟩ := c; rfl) | (obtain ⟨_, _, _, _, _, _, _, _, _, _, _, _, _, _, _, rfl, _⟩ := c; rfl)) (fun hr => d_Plan_helpers T   hr) (fun B W ss o Rt Xt hB c hX => w_Plan_helpers T c), He.meth_ok (c.fact 106 (f := .meth "Plan" "helpers") rfl), T.c_Plan, (FunD.bindsN (ps := ["self"]) F_Plan_helpers fun _ _ _ _ _ _ us hl => match us, hl with | [_], _ => rfl)⟩
  obtain ⟨fd_Plan_last, F0_Plan_last⟩ := c.def_ 47 (d := D_Plan_last) rfl
  have F_Plan_last : FunD K "last" "Plan.last" (defArgs s_Plan_last) (defBody s_Plan_last) (defScope s_Plan_last) [] [] (ma K (He.ga K "Plan") "last") fd_Plan_last := F0_Plan_last
  have C_Plan_last : CalM P w K mg base 1 "Plan" "last" ["self"] (c_Plan_last K) := ⟨fd_Plan_last, fn_of_con (t := r_Plan_last K) (He5.fun_of F_Plan_last) sc_Plan_last (fun ss o Rt Xt c => by first | (obtain ⟨rfl, _⟩ := c; rfl) | (obtain ⟨_, rfl, _⟩ := c; rfl) | (obtain ⟨_, _, rfl, _⟩ := c; rfl) | (obtain ⟨_, _, _, rfl, _⟩ := c; rfl) | (obtain ⟨_, _, _, _, rfl, _⟩ := c; rfl) | (obtain ⟨_, _, _, _, _, rfl, _⟩ := c; rfl) | (obtain ⟨_, _, _, _, _, _, rfl, _⟩ := c; rfl) | (obtain ⟨_, _, _, _, _, _, _, rfl, _⟩ := c; rfl) | (obtain ⟨_, _, _, _, _, _, _, _, rfl, _⟩ := c; rfl) | (obtain ⟨_, _, _, _, _, _, _, _, _, rfl, _⟩ := c; rfl) | (obtain ⟨_, _, _, _, _, _, _, _, _, _, rfl, _⟩ := c; rfl) | (obtain ⟨_, _, _, _, _, _, _, _, _, _, _, rfl, _⟩ := c; rfl) | (obtain ⟨_, _, _, _, _, _, _, _, _, _, _, _, rfl, _⟩ := c; rfl) | (obtain ⟨_, _, _, _, _, _, _, _, _, _, _, _, _, rfl, _⟩ := c; rfl) | (obtain ⟨_, _, _, _, _, _, _, _, _, _, _, _, _, _, rfl, _⟩ := c; rfl) | (obtain ⟨_, _, _, _, _, _, _, _, _, _, _, _, _, _, _, rfl, _⟩ := c; rfl)) (fun hr => d_Plan_last T   hr) (fun B W ss o Rt Xt hB c hX => w_Plan_last T c), He.meth_ok (c.fact 107 (f := .meth "Plan" "last") rfl), T.c_Plan, (FunD.bindsN (ps := ["self"]) F_Plan_last fun _ _ _ _ _ _ us hl => match us, hl with | [_], _ => rfl)⟩
  obtain ⟨fd_Plan_letters, F0_Plan_letters⟩ := c.def_ 49 (d := D_Plan_letters) rfl
  have F_Plan_letters : FunD K "letters" "Plan.letters" (defArgs s_Plan_letters) (defBody s_Plan_letters) (defScope s_Plan_letters) [] [] (ma K (He.ga K "Plan") "letters") fd_Plan_letters := F0_Plan_letters
  have C_Plan_letters : CalM P w K mg base 1 "Plan" "letters" ["self"] (c_Plan_letters K) := ⟨fd_Plan_letters, fn_of_con (t := r_Plan_letters K) (He5.fun_of F_Plan_letters) sc_Plan_letters (fun ss o Rt Xt c => by first | (obtain ⟨rfl, _⟩ := c; rfl) | (obtain ⟨_, rfl, _⟩ := c; rfl) | (obtain ⟨_, _, rfl, _⟩ := c; rfl) | (obtain ⟨_, _, _, rfl, _⟩ := c; rfl) | (obtain ⟨_, _, _, _, rfl, _⟩ := c; rfl) | (obtain ⟨_, _, _, _, _, rfl, _⟩ := c; rfl) | (obtain ⟨_, _, _, _, _, _, rfl, _⟩ := c; rfl) | (obtain ⟨_, _, _, _, _, _, _, rfl, _⟩ := c; rfl) | (obtain ⟨_, _, _, _, _, _, _, _, rfl, _⟩ := c; rfl) | (obtain ⟨_, _, _, _, _, _, _, _, _, rfl, _⟩ := c; rfl) | (obtain ⟨_, _, _, _, _, _, _, _, _, _, rfl, _⟩ := c; rfl) | (obtain ⟨_, _, _, _, _, _, _, _, _, _, _, rfl, _⟩ := c; rfl) | (obtain ⟨_, _, _, _, _, _, _, _, _, _, _, _, rfl, _⟩ := c; rfl) | (obtain ⟨_, _, _, _, _, _, _, _, _, _, _, _, _, rfl, _⟩ := c; rfl) | (obtain ⟨_, _, _, _, _, _, _, _, _, _, _, _, _, _, rfl, _⟩ := c; rfl) | (obtain ⟨_, _, _, _, _, _, _, _, _, _, _, _, _, _, _, rfl, _⟩ := c; rfl)) (fun hr => d_Plan_letters T   hr) (fun B W ss o Rt Xt hB c hX => w_Plan_letters T c), He.meth_ok (c.fact 109 (f := .meth "Plan" "letters") rfl), T.c_Plan, (FunD.bindsN (ps := ["self"]) F_Plan_letters fun _ _ _ _ _ _ us hl => match us, hl with | [_], _ => rfl)⟩
  obtain ⟨fd_spread_of, F0_spread_of⟩ := c.def_ 5 (d := D_spread_of) rfl
  have F_spread_of : FunD K "spread_of" "spread_of" (defArgs s_spread_of) (defBody s_spread_of) (defScope s_spread_of) [] [] (He.ga K "spread_of") fd_spread_of := F0_spread_of
  have C_spread_of : Cal P w K mg base 4 "spread_of" ["plan", "starts"] (c_spread_of K) := cal_of (t := r_spread_of K) (He5.fun_of F_spread_of) sc_spread_of (He.glo_ok X G (c.fact 5 (f := .glo "spread_of") rfl)) (FunD.bindsN (ps := ["plan", "starts"]) F_spread_of fun _ _ _ _ _ _ us hl => match us, hl with | [_, _], _ => rfl) (fun ss o Rt Xt c => by first | (obtain ⟨rfl, _⟩ := c; rfl) | (obtain ⟨_, rfl, _⟩ := c; rfl) | (obtain ⟨_, _, rfl, _⟩ := c; rfl) | (obtain ⟨_, _, _, rfl, _⟩ := c; rfl) | (obtain ⟨_, _, _, _, rfl, _⟩ := c; rfl) | (obtain ⟨_, _, _, _, _, rfl, _⟩ := c; rfl) | (obtain ⟨_, _, _, _, _, _, rfl, _⟩ := c; rfl) | (obtain ⟨_, _, _, _, _, _, _, rfl, _⟩ := c; rfl) | (obtain ⟨_, _, _, _, _, _, _, _, rfl, _⟩ := c; rfl) | (obtain ⟨_, _, _, _, _, _, _, _, _, rfl, _⟩ := c; rfl) | (obtain ⟨_, _, _, _, _, _, _, _, _, _, rfl, _⟩ := c; rfl) | (obtain ⟨_, _, _, _, _, _, _, _, _, _, _, rfl, _⟩ := c; rfl) | (obtain ⟨_, _, _, _, _, _, _, _, _, _, _, _, rfl, _⟩ := c; rfl) | (obtain ⟨_, _, _, _, _, _, _, _, _, _, _, _, _, rfl, _⟩ := c; rfl) | (obtain ⟨_, _, _, _, _, _, _, _, _, _, _, _, _, _, rfl, _⟩ := c; rfl) | (obtain ⟨_, _, _, _, _, _, _, _, _, _, _, _, _, _, _, rfl, _⟩ := c; rfl)) (fun hr => d_spread_of T C_Plan_carried C_Plan_helpers C_Plan_last C_Plan_letters C_check_helper C_check_moment C_check_most  hr) (fun B W ss o Rt Xt hB c hX => w_spread_of T hB c hX)
  obtain ⟨fd_reach_of, F0_reach_of⟩ := c.def_ 6 (d := D_reach_of) rfl
  have F_reach_of : FunD K "reach_of" "reach_of" (defArgs s_reach_of) (defBody s_reach_of) (defScope s_reach_of) [] [] (He.ga K "reach_of") fd_reach_of := F0_reach_of
  have C_reach_of : Cal P w K mg base 5 "reach_of" ["plan", "helper", "moment"] (c_reach_of K) := cal_of (t := r_reach_of K) (He5.fun_of F_reach_of) sc_reach_of (He.glo_ok X G (c.fact 6 (f := .glo "reach_of") rfl)) (FunD.bindsN (ps := ["plan", "helper", "moment"]) F_reach_of fun _ _ _ _ _ _ us hl => match us, hl with | [_, _, _], _ => rfl) (fun ss o Rt Xt c => by first | (obtain ⟨rfl, _⟩ := c; rfl) | (obtain ⟨_, rfl, _⟩ := c; rfl) | (obtain ⟨_, _, rfl, _⟩ := c; rfl) | (obtain ⟨_, _, _, rfl, _⟩ := c; rfl) | (obtain ⟨_, _, _, _, rfl, _⟩ := c; rfl) | (obtain ⟨_, _, _, _, _, rfl, _⟩ := c; rfl) | (obtain ⟨_, _, _, _, _, _, rfl, _⟩ := c; rfl) | (obtain ⟨_, _, _, _, _, _, _, rfl, _⟩ := c; rfl) | (obtain ⟨_, _, _, _, _, _, _, _, rfl, _⟩ := c; rfl) | (obtain ⟨_, _, _, _, _, _, _, _, _, rfl, _⟩ := c; rfl) | (obtain ⟨_, _, _, _, _, _, _, _, _, _, rfl, _⟩ := c; rfl) | (obtain ⟨_, _, _, _, _, _, _, _, _, _, _, rfl, _⟩ := c; rfl) | (obtain ⟨_, _, _, _, _, _, _, _, _, _, _, _, rfl, _⟩ := c; rfl) | (obtain ⟨_, _, _, _, _, _, _, _, _, _, _, _, _, rfl, _⟩ := c; rfl) | (obtain ⟨_, _, _, _, _, _, _, _, _, _, _, _, _, _, rfl, _⟩ := c; rfl) | (obtain ⟨_, _, _, _, _, _, _, _, _, _, _, _, _, _, _, rfl, _⟩ := c; rfl)) (fun hr => d_reach_of T C_spread_of  hr) (fun B W ss o Rt Xt hB c hX => w_reach_of T c hX)
  obtain ⟨fd_check_knowing, F0_check_knowing⟩ := c.def_ 7 (d := D_check_knowing) rfl
  have F_check_knowing : FunD K "check_knowing" "check_knowing" (defArgs s_check_knowing) (defBody s_check_knowing) (defScope s_check_knowing) [] [] (He.ga K "check_knowing") fd_check_knowing := F0_check_knowing
  have C_check_knowing : Cal P w K mg base 4 "check_knowing" ["plan", "knowing"] (c_check_knowing K) := cal_of (t := r_check_knowing K) (He5.fun_of F_check_knowing) sc_check_knowing (He.glo_ok X G (c.fact 7 (f := .glo "check_knowing") rfl)) (FunD.bindsN (ps := ["plan", "knowing"]) F_check_knowing fun _ _ _ _ _ _ us hl => match us, hl with | [_, _], _ => rfl) (fun ss o Rt Xt c => by first | (obtain ⟨rfl, _⟩ := c; rfl) | (obtain ⟨_, rfl, _⟩ := c; rfl) | (obtain ⟨_, _, rfl, _⟩ := c; rfl) | (obtain ⟨_, _, _, rfl, _⟩ := c; rfl) | (obtain ⟨_, _, _, _, rfl, _⟩ := c; rfl) | (obtain ⟨_, _, _, _, _, rfl, _⟩ := c; rfl) | (obtain ⟨_, _, _, _, _, _, rfl, _⟩ := c; rfl) | (obtain ⟨_, _, _, _, _, _, _, rfl, _⟩ := c; rfl) | (obtain ⟨_, _, _, _, _, _, _, _, rfl, _⟩ := c; rfl) | (obtain ⟨_, _, _, _, _, _, _, _, _, rfl, _⟩ := c; rfl) | (obtain ⟨_, _, _, _, _, _, _, _, _, _, rfl, _⟩ := c; rfl) | (obtain ⟨_, _, _, _, _, _, _, _, _, _, _, rfl, _⟩ := c; rfl) | (obtain ⟨_, _, _, _, _, _, _, _, _, _, _, _, rfl, _⟩ := c; rfl) | (obtain ⟨_, _, _, _, _, _, _, _, _, _, _, _, _, rfl, _⟩ := c; rfl) | (obtain ⟨_, _, _, _, _, _, _, _, _, _, _, _, _, _, rfl, _⟩ := c; rfl) | (obtain ⟨_, _, _, _, _, _, _, _, _, _, _, _, _, _, _, rfl, _⟩ := c; rfl)) (fun hr => d_check_knowing T C_check_moment  hr) (fun B W ss o Rt Xt hB c hX => w_check_knowing T c hX)
  obtain ⟨fd_judge_knowing, F0_judge_knowing⟩ := c.def_ 8 (d := D_judge_knowing) rfl
  have F_judge_knowing : FunD K "judge_knowing" "judge_knowing" (defArgs s_judge_knowing) (defBody s_judge_knowing) (defScope s_judge_knowing) [] [] (He.ga K "judge_knowing") fd_judge_knowing := F0_judge_knowing
  have C_judge_knowing : Cal P w K mg base 5 "judge_knowing" ["plan", "knowing"] (c_judge_knowing K) := cal_of (t := r_judge_knowing K) (He5.fun_of F_judge_knowing) sc_judge_knowing (He.glo_ok X G (c.fact 8 (f := .glo "judge_knowing") rfl)) (FunD.bindsN (ps := ["plan", "knowing"]) F_judge_knowing fun _ _ _ _ _ _ us hl => match us, hl with | [_, _], _ => rfl) (fun ss o Rt Xt c => by first | (obtain ⟨rfl, _⟩ := c; rfl) | (obtain ⟨_, rfl, _⟩ := c; rfl) | (obtain ⟨_, _, rfl, _⟩ := c; rfl) | (obtain ⟨_, _, _, rfl, _⟩ := c; rfl) | (obtain ⟨_, _, _, _, rfl, _⟩ := c; rfl) | (obtain ⟨_, _, _, _, _, rfl, _⟩ := c; rfl) | (obtain ⟨_, _, _, _, _, _, rfl, _⟩ := c; rfl) | (obtain ⟨_, _, _, _, _, _, _, rfl, _⟩ := c; rfl) | (obtain ⟨_, _, _, _, _, _, _, _, rfl, _⟩ := c; rfl) | (obtain ⟨_, _, _, _, _, _, _, _, _, rfl, _⟩ := c; rfl) | (obtain ⟨_, _, _, _, _, _, _, _, _, _, rfl, _⟩ := c; rfl) | (obtain ⟨_, _, _, _, _, _, _, _, _, _, _, rfl, _⟩ := c; rfl) | (obtain ⟨_, _, _, _, _, _, _, _, _, _, _, _, rfl, _⟩ := c; rfl) | (obtain ⟨_, _, _, _, _, _, _, _, _, _, _, _, _, rfl, _⟩ := c; rfl) | (obtain ⟨_, _, _, _, _, _, _, _, _, _, _, _, _, _, rfl, _⟩ := c; rfl) | (obtain ⟨_, _, _, _, _, _, _, _, _, _, _, _, _, _, _, rfl, _⟩ := c; rfl)) (fun hr => d_judge_knowing T C_Plan_carried C_Plan_letters C_check_knowing  hr) (fun B W ss o Rt Xt hB c hX => w_judge_knowing T hB c hX)
  obtain ⟨fd_Plan_decisions, F0_Plan_decisions⟩ := c.def_ 48 (d := D_Plan_decisions) rfl
  have F_Plan_decisions : FunD K "decisions" "Plan.decisions" (defArgs s_Plan_decisions) (defBody s_Plan_decisions) (defScope s_Plan_decisions) [] [] (ma K (He.ga K "Plan") "decisions") fd_Plan_decisions := F0_Plan_decisions
  have C_Plan_decisions : CalM P w K mg base 1 "Plan" "decisions" ["self"] (c_Plan_decisions K) := ⟨fd_Plan_decisions, fn_of_con (t := r_Plan_decisions K) (He5.fun_of F_Plan_decisions) sc_Plan_decisions (fun ss o Rt Xt c => by first | (obtain ⟨rfl, _⟩ := c; rfl) | (obtain ⟨_, rfl, _⟩ := c; rfl) | (obtain ⟨_, _, rfl, _⟩ := c; rfl) | (obtain ⟨_, _, _, rfl, _⟩ := c; rfl) | (obtain ⟨_, _, _, _, rfl, _⟩ := c; rfl) | (obtain ⟨_, _, _, _, _, rfl, _⟩ := c; rfl) | (obtain ⟨_, _, _, _, _, _, rfl, _⟩ := c; rfl) | (obtain ⟨_, _, _, _, _, _, _, rfl, _⟩ := c; rfl) | (obtain ⟨_, _, _, _, _, _, _, _, rfl, _⟩ := c; rfl) | (obtain ⟨_, _, _, _, _, _, _, _, _, rfl, _⟩ := c; rfl) | (obtain ⟨_, _, _, _, _, _, _, _, _, _, rfl, _⟩ := c; rfl) | (obtain ⟨_, _, _, _, _, _, _, _, _, _, _, rfl, _⟩ := c; rfl) | (obtain ⟨_, _, _, _, _, _, _, _, _, _, _, _, rfl, _⟩ := c; rfl) | (obtain ⟨_, _, _, _, _, _, _, _, _, _, _, _, _, rfl, _⟩ := c; rfl) | (obtain ⟨_, _, _, _, _, _, _, _, _, _, _, _, _, _, rfl, _⟩ := c; rfl) | (obtain ⟨_, _, _, _, _, _, _, _, _, _, _, _, _, _, _, rfl, _⟩ := c; rfl)) (fun hr => d_Plan_decisions T   hr) (fun B W ss o Rt Xt hB c hX => w_Plan_decisions T c), He.meth_ok (c.fact 108 (f := .meth "Plan" "decisions") rfl), T.c_Plan, (FunD.bindsN (ps := ["self"]) F_Plan_decisions fun _ _ _ _ _ _ us hl => match us, hl with | [_], _ => rfl)⟩
  obtain ⟨fd_takers_of, F0_takers_of⟩ := c.def_ 9 (d := D_takers_of) rfl
  have F_takers_of : FunD K "takers_of" "takers_of" (defArgs s_takers_of) (defBody s_takers_of) (defScope s_takers_of) [] [] (He.ga K "takers_of") fd_takers_of := F0_takers_of
  have C_takers_of : Cal P w K mg base 5 "takers_of" ["plan", "knowing"] (c_takers_of K) := cal_of (t := r_takers_of K) (He5.fun_of F_takers_of) sc_takers_of (He.glo_ok X G (c.fact 9 (f := .glo "takers_of") rfl)) (FunD.bindsN (ps := ["plan", "knowing"]) F_takers_of fun _ _ _ _ _ _ us hl => match us, hl with | [_, _], _ => rfl) (fun ss o Rt Xt c => by first | (obtain ⟨rfl, _⟩ := c; rfl) | (obtain ⟨_, rfl, _⟩ := c; rfl) | (obtain ⟨_, _, rfl, _⟩ := c; rfl) | (obtain ⟨_, _, _, rfl, _⟩ := c; rfl) | (obtain ⟨_, _, _, _, rfl, _⟩ := c; rfl) | (obtain ⟨_, _, _, _, _, rfl, _⟩ := c; rfl) | (obtain ⟨_, _, _, _, _, _, rfl, _⟩ := c; rfl) | (obtain ⟨_, _, _, _, _, _, _, rfl, _⟩ := c; rfl) | (obtain ⟨_, _, _, _, _, _, _, _, rfl, _⟩ := c; rfl) | (obtain ⟨_, _, _, _, _, _, _, _, _, rfl, _⟩ := c; rfl) | (obtain ⟨_, _, _, _, _, _, _, _, _, _, rfl, _⟩ := c; rfl) | (obtain ⟨_, _, _, _, _, _, _, _, _, _, _, rfl, _⟩ := c; rfl) | (obtain ⟨_, _, _, _, _, _, _, _, _, _, _, _, rfl, _⟩ := c; rfl) | (obtain ⟨_, _, _, _, _, _, _, _, _, _, _, _, _, rfl, _⟩ := c; rfl) | (obtain ⟨_, _, _, _, _, _, _, _, _, _, _, _, _, _, rfl, _⟩ := c; rfl) | (obtain ⟨_, _, _, _, _, _, _, _, _, _, _, _, _, _, _, rfl, _⟩ := c; rfl)) (fun hr => d_takers_of T C_Plan_decisions C_check_knowing  hr) (fun B W ss o Rt Xt hB c hX => w_takers_of T c hX)
  obtain ⟨fd_Plan_place, F0_Plan_place⟩ := c.def_ 51 (d := D_Plan_place) rfl
  have F_Plan_place : FunD K "place" "Plan.place" (defArgs s_Plan_place) (defBody s_Plan_place) (defScope s_Plan_place) [] [] (ma K (He.ga K "Plan") "place") fd_Plan_place := F0_Plan_place
  have C_Plan_place : CalM P w K mg base 3 "Plan" "place" ["self", "name"] (c_Plan_place K) := ⟨fd_Plan_place, fn_of_con (t := r_Plan_place K) (He5.fun_of F_Plan_place) sc_Plan_place (fun ss o Rt Xt c => by first | (obtain ⟨rfl, _⟩ := c; rfl) | (obtain ⟨_, rfl, _⟩ := c; rfl) | (obtain ⟨_, _, rfl, _⟩ := c; rfl) | (obtain ⟨_, _, _, rfl, _⟩ := c; rfl) | (obtain ⟨_, _, _, _, rfl, _⟩ := c; rfl) | (obtain ⟨_, _, _, _, _, rfl, _⟩ := c; rfl) | (obtain ⟨_, _, _, _, _, _, rfl, _⟩ := c; rfl) | (obtain ⟨_, _, _, _, _, _, _, rfl, _⟩ := c; rfl) | (obtain ⟨_, _, _, _, _, _, _, _, rfl, _⟩ := c; rfl) | (obtain ⟨_, _, _, _, _, _, _, _, _, rfl, _⟩ := c; rfl) | (obtain ⟨_, _, _, _, _, _, _, _, _, _, rfl, _⟩ := c; rfl) | (obtain ⟨_, _, _, _, _, _, _, _, _, _, _, rfl, _⟩ := c; rfl) | (obtain ⟨_, _, _, _, _, _, _, _, _, _, _, _, rfl, _⟩ := c; rfl) | (obtain ⟨_, _, _, _, _, _, _, _, _, _, _, _, _, rfl, _⟩ := c; rfl) | (obtain ⟨_, _, _, _, _, _, _, _, _, _, _, _, _, _, rfl, _⟩ := c; rfl) | (obtain ⟨_, _, _, _, _, _, _, _, _, _, _, _, _, _, _, rfl, _⟩ := c; rfl)) (fun hr => d_Plan_place T  I_BadNames hr) (fun B W ss o Rt Xt hB c hX => w_Plan_place T c hX), He.meth_ok (c.fact 111 (f := .meth "Plan" "place") rfl), T.c_Plan, (FunD.bindsN (ps := ["self", "name"]) F_Plan_place fun _ _ _ _ _ _ us hl => match us, hl with | [_, _], _ => rfl)⟩
  obtain ⟨fd_cone_of, F0_cone_of⟩ := c.def_ 10 (d := D_cone_of) rfl
  have F_cone_of : FunD K "cone_of" "cone_of" (defArgs s_cone_of) (defBody s_cone_of) (defScope s_cone_of) [] [] (He.ga K "cone_of") fd_cone_of := F0_cone_of
  have C_cone_of : Cal P w K mg base 6 "cone_of" ["plan", "name"] (c_cone_of K) := cal_of (t := r_cone_of K) (He5.fun_of F_cone_of) sc_cone_of (He.glo_ok X G (c.fact 10 (f := .glo "cone_of") rfl)) (FunD.bindsN (ps := ["plan", "name"]) F_cone_of fun _ _ _ _ _ _ us hl => match us, hl with | [_, _], _ => rfl) (fun ss o Rt Xt c => by first | (obtain ⟨rfl, _⟩ := c; rfl) | (obtain ⟨_, rfl, _⟩ := c; rfl) | (obtain ⟨_, _, rfl, _⟩ := c; rfl) | (obtain ⟨_, _, _, rfl, _⟩ := c; rfl) | (obtain ⟨_, _, _, _, rfl, _⟩ := c; rfl) | (obtain ⟨_, _, _, _, _, rfl, _⟩ := c; rfl) | (obtain ⟨_, _, _, _, _, _, rfl, _⟩ := c; rfl) | (obtain ⟨_, _, _, _, _, _, _, rfl, _⟩ := c; rfl) | (obtain ⟨_, _, _, _, _, _, _, _, rfl, _⟩ := c; rfl) | (obtain ⟨_, _, _, _, _, _, _, _, _, rfl, _⟩ := c; rfl) | (obtain ⟨_, _, _, _, _, _, _, _, _, _, rfl, _⟩ := c; rfl) | (obtain ⟨_, _, _, _, _, _, _, _, _, _, _, rfl, _⟩ := c; rfl) | (obtain ⟨_, _, _, _, _, _, _, _, _, _, _, _, rfl, _⟩ := c; rfl) | (obtain ⟨_, _, _, _, _, _, _, _, _, _, _, _, _, rfl, _⟩ := c; rfl) | (obtain ⟨_, _, _, _, _, _, _, _, _, _, _, _, _, _, rfl, _⟩ := c; rfl) | (obtain ⟨_, _, _, _, _, _, _, _, _, _, _, _, _, _, _, rfl, _⟩ := c; rfl)) (fun hr => d_cone_of T C_Plan_decisions C_Plan_place C_check_name C_reach_of C_takers_of  hr) (fun B W ss o Rt Xt hB c hX => w_cone_of T hB c hX)
  obtain ⟨fd_Plan_names, F0_Plan_names⟩ := c.def_ 50 (d := D_Plan_names) rfl
  have F_Plan_names : FunD K "names" "Plan.names" (defArgs s_Plan_names) (defBody s_Plan_names) (defScope s_Plan_names) [] [] (ma K (He.ga K "Plan") "names") fd_Plan_names := F0_Plan_names
  have C_Plan_names : CalM P w K mg base 1 "Plan" "names" ["self"] (c_Plan_names K) := ⟨fd_Plan_names, fn_of_con (t := r_Plan_names K) (He5.fun_of F_Plan_names) sc_Plan_names (fun ss o Rt Xt c => by first | (obtain ⟨rfl, _⟩ := c; rfl) | (obtain ⟨_, rfl, _⟩ := c; rfl) | (obtain ⟨_, _, rfl, _⟩ := c; rfl) | (obtain ⟨_, _, _, rfl, _⟩ := c; rfl) | (obtain ⟨_, _, _, _, rfl, _⟩ := c; rfl) | (obtain ⟨_, _, _, _, _, rfl, _⟩ := c; rfl) | (obtain ⟨_, _, _, _, _, _, rfl, _⟩ := c; rfl) | (obtain ⟨_, _, _, _, _, _, _, rfl, _⟩ := c; rfl) | (obtain ⟨_, _, _, _, _, _, _, _, rfl, _⟩ := c; rfl) | (obtain ⟨_, _, _, _, _, _, _, _, _, rfl, _⟩ := c; rfl) | (obtain ⟨_, _, _, _, _, _, _, _, _, _, rfl, _⟩ := c; rfl) | (obtain ⟨_, _, _, _, _, _, _, _, _, _, _, rfl, _⟩ := c; rfl) | (obtain ⟨_, _, _, _, _, _, _, _, _, _, _, _, rfl, _⟩ := c; rfl) | (obtain ⟨_, _, _, _, _, _, _, _, _, _, _, _, _, rfl, _⟩ := c; rfl) | (obtain ⟨_, _, _, _, _, _, _, _, _, _, _, _, _, _, rfl, _⟩ := c; rfl) | (obtain ⟨_, _, _, _, _, _, _, _, _, _, _, _, _, _, _, rfl, _⟩ := c; rfl)) (fun hr => d_Plan_names T   hr) (fun B W ss o Rt Xt hB c hX => w_Plan_names T c), He.meth_ok (c.fact 110 (f := .meth "Plan" "names") rfl), T.c_Plan, (FunD.bindsN (ps := ["self"]) F_Plan_names fun _ _ _ _ _ _ us hl => match us, hl with | [_], _ => rfl)⟩
  obtain ⟨fd_are_together, F0_are_together⟩ := c.def_ 11 (d := D_are_together) rfl
  have F_are_together : FunD K "are_together" "are_together" (defArgs s_are_together) (defBody s_are_together) (defScope s_are_together) [] [] (He.ga K "are_together") fd_are_together := F0_are_together
  have C_are_together : Cal P w K mg base 4 "are_together" ["plan", "one", "other"] (c_are_together K) := cal_of (t := r_are_together K) (He5.fun_of F_are_together) sc_are_together (He.glo_ok X G (c.fact 11 (f := .glo "are_together") rfl)) (FunD.bindsN (ps := ["plan", "one", "other"]) F_are_together fun _ _ _ _ _ _ us hl => match us, hl with | [_, _, _], _ => rfl) (fun ss o Rt Xt c => by first | (obtain ⟨rfl, _⟩ := c; rfl) | (obtain ⟨_, rfl, _⟩ := c; rfl) | (obtain ⟨_, _, rfl, _⟩ := c; rfl) | (obtain ⟨_, _, _, rfl, _⟩ := c; rfl) | (obtain ⟨_, _, _, _, rfl, _⟩ := c; rfl) | (obtain ⟨_, _, _, _, _, rfl, _⟩ := c; rfl) | (obtain ⟨_, _, _, _, _, _, rfl, _⟩ := c; rfl) | (obtain ⟨_, _, _, _, _, _, _, rfl, _⟩ := c; rfl) | (obtain ⟨_, _, _, _, _, _, _, _, rfl, _⟩ := c; rfl) | (obtain ⟨_, _, _, _, _, _, _, _, _, rfl, _⟩ := c; rfl) | (obtain ⟨_, _, _, _, _, _, _, _, _, _, rfl, _⟩ := c; rfl) | (obtain ⟨_, _, _, _, _, _, _, _, _, _, _, rfl, _⟩ := c; rfl) | (obtain ⟨_, _, _, _, _, _, _, _, _, _, _, _, rfl, _⟩ := c; rfl) | (obtain ⟨_, _, _, _, _, _, _, _, _, _, _, _, _, rfl, _⟩ := c; rfl) | (obtain ⟨_, _, _, _, _, _, _, _, _, _, _, _, _, _, rfl, _⟩ := c; rfl) | (obtain ⟨_, _, _, _, _, _, _, _, _, _, _, _, _, _, _, rfl, _⟩ := c; rfl)) (fun hr => d_are_together T C_Plan_decisions C_Plan_names C_Plan_place I_BadNames hr) (fun B W ss o Rt Xt hB c hX => w_are_together T c hX)
  obtain ⟨fd_is_word, F0_is_word⟩ := c.def_ 12 (d := D_is_word) rfl
  have F_is_word : FunD K "is_word" "is_word" (defArgs s_is_word) (defBody s_is_word) (defScope s_is_word) [] [] (He.ga K "is_word") fd_is_word := F0_is_word
  have C_is_word : Cal P w K mg base 1 "is_word" ["word"] (c_is_word K) := cal_of (t := r_is_word K) (He5.fun_of F_is_word) sc_is_word (He.glo_ok X G (c.fact 12 (f := .glo "is_word") rfl)) (FunD.bindsN (ps := ["word"]) F_is_word fun _ _ _ _ _ _ us hl => match us, hl with | [_], _ => rfl) (fun ss o Rt Xt c => by first | (obtain ⟨rfl, _⟩ := c; rfl) | (obtain ⟨_, rfl, _⟩ := c; rfl) | (obtain ⟨_, _, rfl, _⟩ := c; rfl) | (obtain ⟨_, _, _, rfl, _⟩ := c; rfl) | (obtain ⟨_, _, _, _, rfl, _⟩ := c; rfl) | (obtain ⟨_, _, _, _, _, rfl, _⟩ := c; rfl) | (obtain ⟨_, _, _, _, _, _, rfl, _⟩ := c; rfl) | (obtain ⟨_, _, _, _, _, _, _, rfl, _⟩ := c; rfl) | (obtain ⟨_, _, _, _, _, _, _, _, rfl, _⟩ := c; rfl) | (obtain ⟨_, _, _, _, _, _, _, _, _, rfl, _⟩ := c; rfl) | (obtain ⟨_, _, _, _, _, _, _, _, _, _, rfl, _⟩ := c; rfl) | (obtain ⟨_, _, _, _, _, _, _, _, _, _, _, rfl, _⟩ := c; rfl) | (obtain ⟨_, _, _, _, _, _, _, _, _, _, _, _, rfl, _⟩ := c; rfl) | (obtain ⟨_, _, _, _, _, _, _, _, _, _, _, _, _, rfl, _⟩ := c; rfl) | (obtain ⟨_, _, _, _, _, _, _, _, _, _, _, _, _, _, rfl, _⟩ := c; rfl) | (obtain ⟨_, _, _, _, _, _, _, _, _, _, _, _, _, _, _, rfl, _⟩ := c; rfl)) (fun hr => d_is_word T   hr) (fun B W ss o Rt Xt hB c hX => w_is_word c)
  obtain ⟨fd_check_bounds, F0_check_bounds⟩ := c.def_ 13 (d := D_check_bounds) rfl
  have F_check_bounds : FunD K "check_bounds" "check_bounds" (defArgs s_check_bounds) (defBody s_check_bounds) (defScope s_check_bounds) [] [] (He.ga K "check_bounds") fd_check_bounds := F0_check_bounds
  have C_check_bounds : Cal P w K mg base 4 "check_bounds" ["helpers", "last", "many", "decisions", "rules", "sights"] (c_check_bounds K) := cal_of (t := r_check_bounds K) (He5.fun_of F_check_bounds) sc_check_bounds (He.glo_ok X G (c.fact 13 (f := .glo "check_bounds") rfl)) (FunD.bindsN (ps := ["helpers", "last", "many", "decisions", "rules", "sights"]) F_check_bounds fun _ _ _ _ _ _ us hl => match us, hl with | [_, _, _, _, _, _], _ => rfl) (fun ss o Rt Xt c => by first | (obtain ⟨rfl, _⟩ := c; rfl) | (obtain ⟨_, rfl, _⟩ := c; rfl) | (obtain ⟨_, _, rfl, _⟩ := c; rfl) | (obtain ⟨_, _, _, rfl, _⟩ := c; rfl) | (obtain ⟨_, _, _, _, rfl, _⟩ := c; rfl) | (obtain ⟨_, _, _, _, _, rfl, _⟩ := c; rfl) | (obtain ⟨_, _, _, _, _, _, rfl, _⟩ := c; rfl) | (obtain ⟨_, _, _, _, _, _, _, rfl, _⟩ := c; rfl) | (obtain ⟨_, _, _, _, _, _, _, _, rfl, _⟩ := c; rfl) | (obtain ⟨_, _, _, _, _, _, _, _, _, rfl, _⟩ := c; rfl) | (obtain ⟨_, _, _, _, _, _, _, _, _, _, rfl, _⟩ := c; rfl) | (obtain ⟨_, _, _, _, _, _, _, _, _, _, _, rfl, _⟩ := c; rfl) | (obtain ⟨_, _, _, _, _, _, _, _, _, _, _, _, rfl, _⟩ := c; rfl) | (obtain ⟨_, _, _, _, _, _, _, _, _, _, _, _, _, rfl, _⟩ := c; rfl) | (obtain ⟨_, _, _, _, _, _, _, _, _, _, _, _, _, _, rfl, _⟩ := c; rfl) | (obtain ⟨_, _, _, _, _, _, _, _, _, _, _, _, _, _, _, rfl, _⟩ := c; rfl)) (fun hr => d_check_bounds T C_check_most C_check_numbers  hr) (fun B W ss o Rt Xt hB c hX => w_check_bounds c)
  obtain ⟨fd_in_order, F0_in_order⟩ := c.def_ 14 (d := D_in_order) rfl
  have F_in_order : FunD K "in_order" "in_order" (defArgs s_in_order) (defBody s_in_order) (defScope s_in_order) [] [] (He.ga K "in_order") fd_in_order := F0_in_order
  have C_in_order : Cal P w K mg base 2 "in_order" ["words", "mishaps"] (c_in_order K) := cal_of (t := r_in_order K) (He5.fun_of F_in_order) sc_in_order (He.glo_ok X G (c.fact 14 (f := .glo "in_order") rfl)) (FunD.bindsN (ps := ["words", "mishaps"]) F_in_order fun _ _ _ _ _ _ us hl => match us, hl with | [_, _], _ => rfl) (fun ss o Rt Xt c => by first | (obtain ⟨rfl, _⟩ := c; rfl) | (obtain ⟨_, rfl, _⟩ := c; rfl) | (obtain ⟨_, _, rfl, _⟩ := c; rfl) | (obtain ⟨_, _, _, rfl, _⟩ := c; rfl) | (obtain ⟨_, _, _, _, rfl, _⟩ := c; rfl) | (obtain ⟨_, _, _, _, _, rfl, _⟩ := c; rfl) | (obtain ⟨_, _, _, _, _, _, rfl, _⟩ := c; rfl) | (obtain ⟨_, _, _, _, _, _, _, rfl, _⟩ := c; rfl) | (obtain ⟨_, _, _, _, _, _, _, _, rfl, _⟩ := c; rfl) | (obtain ⟨_, _, _, _, _, _, _, _, _, rfl, _⟩ := c; rfl) | (obtain ⟨_, _, _, _, _, _, _, _, _, _, rfl, _⟩ := c; rfl) | (obtain ⟨_, _, _, _, _, _, _, _, _, _, _, rfl, _⟩ := c; rfl) | (obtain ⟨_, _, _, _, _, _, _, _, _, _, _, _, rfl, _⟩ := c; rfl) | (obtain ⟨_, _, _, _, _, _, _, _, _, _, _, _, _, rfl, _⟩ := c; rfl) | (obtain ⟨_, _, _, _, _, _, _, _, _, _, _, _, _, _, rfl, _⟩ := c; rfl) | (obtain ⟨_, _, _, _, _, _, _, _, _, _, _, _, _, _, _, rfl, _⟩ := c; rfl)) (fun hr => d_in_order T   hr) (fun B W ss o Rt Xt hB c hX => w_in_order c)
  obtain ⟨fd_are_sides, F0_are_sides⟩ := c.def_ 15 (d := D_are_sides) rfl
  have F_are_sides : FunD K "are_sides" "are_sides" (defArgs s_are_sides) (defBody s_are_sides) (defScope s_are_sides) [] [] (He.ga K "are_sides") fd_are_sides := F0_are_sides
  have C_are_sides : Cal P w K mg base 3 "are_sides" ["yes", "no", "mishaps"] (c_are_sides K) := cal_of (t := r_are_sides K) (He5.fun_of F_are_sides) sc_are_sides (He.glo_ok X G (c.fact 15 (f := .glo "are_sides") rfl)) (FunD.bindsN (ps := ["yes", "no", "mishaps"]) F_are_sides fun _ _ _ _ _ _ us hl => match us, hl with | [_, _, _], _ => rfl) (fun ss o Rt Xt c => by first | (obtain ⟨rfl, _⟩ := c; rfl) | (obtain ⟨_, rfl, _⟩ := c; rfl) | (obtain ⟨_, _, rfl, _⟩ := c; rfl) | (obtain ⟨_, _, _, rfl, _⟩ := c; rfl) | (obtain ⟨_, _, _, _, rfl, _⟩ := c; rfl) | (obtain ⟨_, _, _, _, _, rfl, _⟩ := c; rfl) | (obtain ⟨_, _, _, _, _, _, rfl, _⟩ := c; rfl) | (obtain ⟨_, _, _, _, _, _, _, rfl, _⟩ := c; rfl) | (obtain ⟨_, _, _, _, _, _, _, _, rfl, _⟩ := c; rfl) | (obtain ⟨_, _, _, _, _, _, _, _, _, rfl, _⟩ := c; rfl) | (obtain ⟨_, _, _, _, _, _, _, _, _, _, rfl, _⟩ := c; rfl) | (obtain ⟨_, _, _, _, _, _, _, _, _, _, _, rfl, _⟩ := c; rfl) | (obtain ⟨_, _, _, _, _, _, _, _, _, _, _, _, rfl, _⟩ := c; rfl) | (obtain ⟨_, _, _, _, _, _, _, _, _, _, _, _, _, rfl, _⟩ := c; rfl) | (obtain ⟨_, _, _, _, _, _, _, _, _, _, _, _, _, _, rfl, _⟩ := c; rfl) | (obtain ⟨_, _, _, _, _, _, _, _, _, _, _, _, _, _, _, rfl, _⟩ := c; rfl)) (fun hr => d_are_sides T C_in_order  hr) (fun B W ss o Rt Xt hB c hX => w_are_sides c)
  obtain ⟨fd_check_mishaps, F0_check_mishaps⟩ := c.def_ 16 (d := D_check_mishaps) rfl
  have F_check_mishaps : FunD K "check_mishaps" "check_mishaps" (defArgs s_check_mishaps) (defBody s_check_mishaps) (defScope s_check_mishaps) [] [] (He.ga K "check_mishaps") fd_check_mishaps := F0_check_mishaps
  have C_check_mishaps : Cal P w K mg base 3 "check_mishaps" ["mishaps"] (c_check_mishaps K) := cal_of (t := r_check_mishaps K) (He5.fun_of F_check_mishaps) sc_check_mishaps (He.glo_ok X G (c.fact 16 (f := .glo "check_mishaps") rfl)) (FunD.bindsN (ps := ["mishaps"]) F_check_mishaps fun _ _ _ _ _ _ us hl => match us, hl with | [_], _ => rfl) (fun ss o Rt Xt c => by first | (obtain ⟨rfl, _⟩ := c; rfl) | (obtain ⟨_, rfl, _⟩ := c; rfl) | (obtain ⟨_, _, rfl, _⟩ := c; rfl) | (obtain ⟨_, _, _, rfl, _⟩ := c; rfl) | (obtain ⟨_, _, _, _, rfl, _⟩ := c; rfl) | (obtain ⟨_, _, _, _, _, rfl, _⟩ := c; rfl) | (obtain ⟨_, _, _, _, _, _, rfl, _⟩ := c; rfl) | (obtain ⟨_, _, _, _, _, _, _, rfl, _⟩ := c; rfl) | (obtain ⟨_, _, _, _, _, _, _, _, rfl, _⟩ := c; rfl) | (obtain ⟨_, _, _, _, _, _, _, _, _, rfl, _⟩ := c; rfl) | (obtain ⟨_, _, _, _, _, _, _, _, _, _, rfl, _⟩ := c; rfl) | (obtain ⟨_, _, _, _, _, _, _, _, _, _, _, rfl, _⟩ := c; rfl) | (obtain ⟨_, _, _, _, _, _, _, _, _, _, _, _, rfl, _⟩ := c; rfl) | (obtain ⟨_, _, _, _, _, _, _, _, _, _, _, _, _, rfl, _⟩ := c; rfl) | (obtain ⟨_, _, _, _, _, _, _, _, _, _, _, _, _, _, rfl, _⟩ := c; rfl) | (obtain ⟨_, _, _, _, _, _, _, _, _, _, _, _, _, _, _, rfl, _⟩ := c; rfl)) (fun hr => d_check_mishaps T C_is_word I_BadPlan hr) (fun B W ss o Rt Xt hB c hX => w_check_mishaps c)
  obtain ⟨fd_check_courses, F0_check_courses⟩ := c.def_ 17 (d := D_check_courses) rfl
  have F_check_courses : FunD K "check_courses" "check_courses" (defArgs s_check_courses) (defBody s_check_courses) (defScope s_check_courses) [] [] (He.ga K "check_courses") fd_check_courses := F0_check_courses
  have C_check_courses : Cal P w K mg base 3 "check_courses" ["courses", "mishaps"] (c_check_courses K) := cal_of (t := r_check_courses K) (He5.fun_of F_check_courses) sc_check_courses (He.glo_ok X G (c.fact 17 (f := .glo "check_courses") rfl)) (FunD.bindsN (ps := ["courses", "mishaps"]) F_check_courses fun _ _ _ _ _ _ us hl => match us, hl with | [_, _], _ => rfl) (fun ss o Rt Xt c => by first | (obtain ⟨rfl, _⟩ := c; rfl) | (obtain ⟨_, rfl, _⟩ := c; rfl) | (obtain ⟨_, _, rfl, _⟩ := c; rfl) | (obtain ⟨_, _, _, rfl, _⟩ := c; rfl) | (obtain ⟨_, _, _, _, rfl, _⟩ := c; rfl) | (obtain ⟨_, _, _, _, _, rfl, _⟩ := c; rfl) | (obtain ⟨_, _, _, _, _, _, rfl, _⟩ := c; rfl) | (obtain ⟨_, _, _, _, _, _, _, rfl, _⟩ := c; rfl) | (obtain ⟨_, _, _, _, _, _, _, _, rfl, _⟩ := c; rfl) | (obtain ⟨_, _, _, _, _, _, _, _, _, rfl, _⟩ := c; rfl) | (obtain ⟨_, _, _, _, _, _, _, _, _, _, rfl, _⟩ := c; rfl) | (obtain ⟨_, _, _, _, _, _, _, _, _, _, _, rfl, _⟩ := c; rfl) | (obtain ⟨_, _, _, _, _, _, _, _, _, _, _, _, rfl, _⟩ := c; rfl) | (obtain ⟨_, _, _, _, _, _, _, _, _, _, _, _, _, rfl, _⟩ := c; rfl) | (obtain ⟨_, _, _, _, _, _, _, _, _, _, _, _, _, _, rfl, _⟩ := c; rfl) | (obtain ⟨_, _, _, _, _, _, _, _, _, _, _, _, _, _, _, rfl, _⟩ := c; rfl)) (fun hr => d_check_courses T C_in_order I_BadPlan hr) (fun B W ss o Rt Xt hB c hX => w_check_courses c)
  obtain ⟨fd_check_decisions, F0_check_decisions⟩ := c.def_ 18 (d := D_check_decisions) rfl
  have F_check_decisions : FunD K "check_decisions" "check_decisions" (defArgs s_check_decisions) (defBody s_check_decisions) (defScope s_check_decisions) [] [] (He.ga K "check_decisions") fd_check_decisions := F0_check_decisions
  have C_check_decisions : Cal P w K mg base 3 "check_decisions" ["decisions", "helpers", "last"] (c_check_decisions K) := cal_of (t := r_check_decisions K) (He5.fun_of F_check_decisions) sc_check_decisions (He.glo_ok X G (c.fact 18 (f := .glo "check_decisions") rfl)) (FunD.bindsN (ps := ["decisions", "helpers", "last"]) F_check_decisions fun _ _ _ _ _ _ us hl => match us, hl with | [_, _, _], _ => rfl) (fun ss o Rt Xt c => by first | (obtain ⟨rfl, _⟩ := c; rfl) | (obtain ⟨_, rfl, _⟩ := c; rfl) | (obtain ⟨_, _, rfl, _⟩ := c; rfl) | (obtain ⟨_, _, _, rfl, _⟩ := c; rfl) | (obtain ⟨_, _, _, _, rfl, _⟩ := c; rfl) | (obtain ⟨_, _, _, _, _, rfl, _⟩ := c; rfl) | (obtain ⟨_, _, _, _, _, _, rfl, _⟩ := c; rfl) | (obtain ⟨_, _, _, _, _, _, _, rfl, _⟩ := c; rfl) | (obtain ⟨_, _, _, _, _, _, _, _, rfl, _⟩ := c; rfl) | (obtain ⟨_, _, _, _, _, _, _, _, _, rfl, _⟩ := c; rfl) | (obtain ⟨_, _, _, _, _, _, _, _, _, _, rfl, _⟩ := c; rfl) | (obtain ⟨_, _, _, _, _, _, _, _, _, _, _, rfl, _⟩ := c; rfl) | (obtain ⟨_, _, _, _, _, _, _, _, _, _, _, _, rfl, _⟩ := c; rfl) | (obtain ⟨_, _, _, _, _, _, _, _, _, _, _, _, _, rfl, _⟩ := c; rfl) | (obtain ⟨_, _, _, _, _, _, _, _, _, _, _, _, _, _, rfl, _⟩ := c; rfl) | (obtain ⟨_, _, _, _, _, _, _, _, _, _, _, _, _, _, _, rfl, _⟩ := c; rfl)) (fun hr => d_check_decisions T C_is_word I_BadPlan hr) (fun B W ss o Rt Xt hB c hX => w_check_decisions c)
  obtain ⟨fd_check_rules, F0_check_rules⟩ := c.def_ 19 (d := D_check_rules) rfl
  have F_check_rules : FunD K "check_rules" "check_rules" (defArgs s_check_rules) (defBody s_check_rules) (defScope s_check_rules) [] [] (He.ga K "check_rules") fd_check_rules := F0_check_rules
  have C_check_rules : Cal P w K mg base 4 "check_rules" ["rules", "names", "mishaps"] (c_check_rules K) := cal_of (t := r_check_rules P w K) (He5.fun_of F_check_rules) sc_check_rules (He.glo_ok X G (c.fact 19 (f := .glo "check_rules") rfl)) (FunD.bindsN (ps := ["rules", "names", "mishaps"]) F_check_rules fun _ _ _ _ _ _ us hl => match us, hl with | [_, _, _], _ => rfl) (fun ss o Rt Xt c => by first | (obtain ⟨rfl, _⟩ := c; rfl) | (obtain ⟨_, rfl, _⟩ := c; rfl) | (obtain ⟨_, _, rfl, _⟩ := c; rfl) | (obtain ⟨_, _, _, rfl, _⟩ := c; rfl) | (obtain ⟨_, _, _, _, rfl, _⟩ := c; rfl) | (obtain ⟨_, _, _, _, _, rfl, _⟩ := c; rfl) | (obtain ⟨_, _, _, _, _, _, rfl, _⟩ := c; rfl) | (obtain ⟨_, _, _, _, _, _, _, rfl, _⟩ := c; rfl) | (obtain ⟨_, _, _, _, _, _, _, _, rfl, _⟩ := c; rfl) | (obtain ⟨_, _, _, _, _, _, _, _, _, rfl, _⟩ := c; rfl) | (obtain ⟨_, _, _, _, _, _, _, _, _, _, rfl, _⟩ := c; rfl) | (obtain ⟨_, _, _, _, _, _, _, _, _, _, _, rfl, _⟩ := c; rfl) | (obtain ⟨_, _, _, _, _, _, _, _, _, _, _, _, rfl, _⟩ := c; rfl) | (obtain ⟨_, _, _, _, _, _, _, _, _, _, _, _, _, rfl, _⟩ := c; rfl) | (obtain ⟨_, _, _, _, _, _, _, _, _, _, _, _, _, _, rfl, _⟩ := c; rfl) | (obtain ⟨_, _, _, _, _, _, _, _, _, _, _, _, _, _, _, rfl, _⟩ := c; rfl)) (fun hr => d_check_rules T C_are_sides I_BadPlan hr) (fun B W ss o Rt Xt hB c hX => w_check_rules c)
  obtain ⟨fd_check_sights, F0_check_sights⟩ := c.def_ 20 (d := D_check_sights) rfl
  have F_check_sights : FunD K "check_sights" "check_sights" (defArgs s_check_sights) (defBody s_check_sights) (defScope s_check_sights) [] [] (He.ga K "check_sights") fd_check_sights := F0_check_sights
  have C_check_sights : Cal P w K mg base 3 "check_sights" ["sights", "decisions", "helpers", "last", "mishaps"] (c_check_sights K) := cal_of (t := r_check_sights K) (He5.fun_of F_check_sights) sc_check_sights (He.glo_ok X G (c.fact 20 (f := .glo "check_sights") rfl)) (FunD.bindsN (ps := ["sights", "decisions", "helpers", "last", "mishaps"]) F_check_sights fun _ _ _ _ _ _ us hl => match us, hl with | [_, _, _, _, _], _ => rfl) (fun ss o Rt Xt c => by first | (obtain ⟨rfl, _⟩ := c; rfl) | (obtain ⟨_, rfl, _⟩ := c; rfl) | (obtain ⟨_, _, rfl, _⟩ := c; rfl) | (obtain ⟨_, _, _, rfl, _⟩ := c; rfl) | (obtain ⟨_, _, _, _, rfl, _⟩ := c; rfl) | (obtain ⟨_, _, _, _, _, rfl, _⟩ := c; rfl) | (obtain ⟨_, _, _, _, _, _, rfl, _⟩ := c; rfl) | (obtain ⟨_, _, _, _, _, _, _, rfl, _⟩ := c; rfl) | (obtain ⟨_, _, _, _, _, _, _, _, rfl, _⟩ := c; rfl) | (obtain ⟨_, _, _, _, _, _, _, _, _, rfl, _⟩ := c; rfl) | (obtain ⟨_, _, _, _, _, _, _, _, _, _, rfl, _⟩ := c; rfl) | (obtain ⟨_, _, _, _, _, _, _, _, _, _, _, rfl, _⟩ := c; rfl) | (obtain ⟨_, _, _, _, _, _, _, _, _, _, _, _, rfl, _⟩ := c; rfl) | (obtain ⟨_, _, _, _, _, _, _, _, _, _, _, _, _, rfl, _⟩ := c; rfl) | (obtain ⟨_, _, _, _, _, _, _, _, _, _, _, _, _, _, rfl, _⟩ := c; rfl) | (obtain ⟨_, _, _, _, _, _, _, _, _, _, _, _, _, _, _, rfl, _⟩ := c; rfl)) (fun hr => d_check_sights T  I_BadPlan hr) (fun B W ss o Rt Xt hB c hX => w_check_sights c)
  obtain ⟨fd_check_letters, F0_check_letters⟩ := c.def_ 21 (d := D_check_letters) rfl
  have F_check_letters : FunD K "check_letters" "check_letters" (defArgs s_check_letters) (defBody s_check_letters) (defScope s_check_letters) [] [] (He.ga K "check_letters") fd_check_letters := F0_check_letters
  have C_check_letters : Cal P w K mg base 4 "check_letters" ["letters", "helpers", "last", "mishaps"] (c_check_letters K) := cal_of (t := r_check_letters K) (He5.fun_of F_check_letters) sc_check_letters (He.glo_ok X G (c.fact 21 (f := .glo "check_letters") rfl)) (FunD.bindsN (ps := ["letters", "helpers", "last", "mishaps"]) F_check_letters fun _ _ _ _ _ _ us hl => match us, hl with | [_, _, _, _], _ => rfl) (fun ss o Rt Xt c => by first | (obtain ⟨rfl, _⟩ := c; rfl) | (obtain ⟨_, rfl, _⟩ := c; rfl) | (obtain ⟨_, _, rfl, _⟩ := c; rfl) | (obtain ⟨_, _, _, rfl, _⟩ := c; rfl) | (obtain ⟨_, _, _, _, rfl, _⟩ := c; rfl) | (obtain ⟨_, _, _, _, _, rfl, _⟩ := c; rfl) | (obtain ⟨_, _, _, _, _, _, rfl, _⟩ := c; rfl) | (obtain ⟨_, _, _, _, _, _, _, rfl, _⟩ := c; rfl) | (obtain ⟨_, _, _, _, _, _, _, _, rfl, _⟩ := c; rfl) | (obtain ⟨_, _, _, _, _, _, _, _, _, rfl, _⟩ := c; rfl) | (obtain ⟨_, _, _, _, _, _, _, _, _, _, rfl, _⟩ := c; rfl) | (obtain ⟨_, _, _, _, _, _, _, _, _, _, _, rfl, _⟩ := c; rfl) | (obtain ⟨_, _, _, _, _, _, _, _, _, _, _, _, rfl, _⟩ := c; rfl) | (obtain ⟨_, _, _, _, _, _, _, _, _, _, _, _, _, rfl, _⟩ := c; rfl) | (obtain ⟨_, _, _, _, _, _, _, _, _, _, _, _, _, _, rfl, _⟩ := c; rfl) | (obtain ⟨_, _, _, _, _, _, _, _, _, _, _, _, _, _, _, rfl, _⟩ := c; rfl)) (fun hr => d_check_letters T C_are_sides I_BadPlan hr) (fun B W ss o Rt Xt hB c hX => w_check_letters c)
  obtain ⟨fd__law_purse, F0__law_purse⟩ := c.def_ 22 (d := D__law_purse) rfl
  have F__law_purse : FunD K "_law_purse" "_law_purse" (defArgs s__law_purse) (defBody s__law_purse) (defScope s__law_purse) [] [] (He.ga K "_law_purse") fd__law_purse := F0__law_purse
  have C__law_purse : CalS P w K mg base 1 "_law_purse" ["script", "at"] (sp__law_purse K) := ⟨_, _, Fun.okX (He5.fun_of F__law_purse) sc__law_purse (fun vs H Q E h => by obtain ⟨a, ns, rfl, _⟩ := h; rfl) (fun cdv A outer s H vs Q E hr h => ⟨_, d__law_purse T   hr, sp_purse h⟩), (He.glo_ok X G (c.fact 22 (f := .glo "_law_purse") rfl)), F__law_purse.kp, (FunD.bindsN (ps := ["script", "at"]) F__law_purse fun _ _ _ _ _ _ us hl => match us, hl with | [_, _], _ => rfl)⟩
  obtain ⟨fd__law_draw, F0__law_draw⟩ := c.def_ 23 (d := D__law_draw) rfl
  have F__law_draw : FunD K "_law_draw" "_law_draw" (defArgs s__law_draw) (defBody s__law_draw) (defScope s__law_draw) [] [] (He.ga K "_law_draw") fd__law_draw := F0__law_draw
  have C__law_draw : Cal P w K mg base 1 "_law_draw" ["purse", "many"] (c__law_draw K) := cal_of (t := r__law_draw K) (He5.fun_of F__law_draw) sc__law_draw (He.glo_ok X G (c.fact 23 (f := .glo "_law_draw") rfl)) (FunD.bindsN (ps := ["purse", "many"]) F__law_draw fun _ _ _ _ _ _ us hl => match us, hl with | [_, _], _ => rfl) (fun ss o Rt Xt c => by first | (obtain ⟨rfl, _⟩ := c; rfl) | (obtain ⟨_, rfl, _⟩ := c; rfl) | (obtain ⟨_, _, rfl, _⟩ := c; rfl) | (obtain ⟨_, _, _, rfl, _⟩ := c; rfl) | (obtain ⟨_, _, _, _, rfl, _⟩ := c; rfl) | (obtain ⟨_, _, _, _, _, rfl, _⟩ := c; rfl) | (obtain ⟨_, _, _, _, _, _, rfl, _⟩ := c; rfl) | (obtain ⟨_, _, _, _, _, _, _, rfl, _⟩ := c; rfl) | (obtain ⟨_, _, _, _, _, _, _, _, rfl, _⟩ := c; rfl) | (obtain ⟨_, _, _, _, _, _, _, _, _, rfl, _⟩ := c; rfl) | (obtain ⟨_, _, _, _, _, _, _, _, _, _, rfl, _⟩ := c; rfl) | (obtain ⟨_, _, _, _, _, _, _, _, _, _, _, rfl, _⟩ := c; rfl) | (obtain ⟨_, _, _, _, _, _, _, _, _, _, _, _, rfl, _⟩ := c; rfl) | (obtain ⟨_, _, _, _, _, _, _, _, _, _, _, _, _, rfl, _⟩ := c; rfl) | (obtain ⟨_, _, _, _, _, _, _, _, _, _, _, _, _, _, rfl, _⟩ := c; rfl) | (obtain ⟨_, _, _, _, _, _, _, _, _, _, _, _, _, _, _, rfl, _⟩ := c; rfl)) (fun hr => d__law_draw T   hr) (fun B W ss o Rt Xt hB c hX => w__law_draw c)
  obtain ⟨fd__law_word, F0__law_word⟩ := c.def_ 24 (d := D__law_word) rfl
  have F__law_word : FunD K "_law_word" "_law_word" (defArgs s__law_word) (defBody s__law_word) (defScope s__law_word) [] [] (He.ga K "_law_word") fd__law_word := F0__law_word
  have C__law_word : Cal P w K mg base 2 "_law_word" ["purse", "taken"] (c__law_word K) := cal_of (t := r__law_word K) (He5.fun_of F__law_word) sc__law_word (He.glo_ok X G (c.fact 24 (f := .glo "_law_word") rfl)) (FunD.bindsN (ps := ["purse", "taken"]) F__law_word fun _ _ _ _ _ _ us hl => match us, hl with | [_, _], _ => rfl) (fun ss o Rt Xt c => by first | (obtain ⟨rfl, _⟩ := c; rfl) | (obtain ⟨_, rfl, _⟩ := c; rfl) | (obtain ⟨_, _, rfl, _⟩ := c; rfl) | (obtain ⟨_, _, _, rfl, _⟩ := c; rfl) | (obtain ⟨_, _, _, _, rfl, _⟩ := c; rfl) | (obtain ⟨_, _, _, _, _, rfl, _⟩ := c; rfl) | (obtain ⟨_, _, _, _, _, _, rfl, _⟩ := c; rfl) | (obtain ⟨_, _, _, _, _, _, _, rfl, _⟩ := c; rfl) | (obtain ⟨_, _, _, _, _, _, _, _, rfl, _⟩ := c; rfl) | (obtain ⟨_, _, _, _, _, _, _, _, _, rfl, _⟩ := c; rfl) | (obtain ⟨_, _, _, _, _, _, _, _, _, _, rfl, _⟩ := c; rfl) | (obtain ⟨_, _, _, _, _, _, _, _, _, _, _, rfl, _⟩ := c; rfl) | (obtain ⟨_, _, _, _, _, _, _, _, _, _, _, _, rfl, _⟩ := c; rfl) | (obtain ⟨_, _, _, _, _, _, _, _, _, _, _, _, _, rfl, _⟩ := c; rfl) | (obtain ⟨_, _, _, _, _, _, _, _, _, _, _, _, _, _, rfl, _⟩ := c; rfl) | (obtain ⟨_, _, _, _, _, _, _, _, _, _, _, _, _, _, _, rfl, _⟩ := c; rfl)) (fun hr => d__law_word T C__law_draw  hr) (fun B W ss o Rt Xt hB c hX => w__law_word c)
  obtain ⟨fd__law_words, F0__law_words⟩ := c.def_ 25 (d := D__law_words) rfl
  have F__law_words : FunD K "_law_words" "_law_words" (defArgs s__law_words) (defBody s__law_words) (defScope s__law_words) [] [] (He.ga K "_law_words") fd__law_words := F0__law_words
  have C__law_words : Cal P w K mg base 3 "_law_words" ["purse", "many"] (c__law_words K) := cal_of (t := r__law_words K) (He5.fun_of F__law_words) sc__law_words (He.glo_ok X G (c.fact 25 (f := .glo "_law_words") rfl)) (FunD.bindsN (ps := ["purse", "many"]) F__law_words fun _ _ _ _ _ _ us hl => match us, hl with | [_, _], _ => rfl) (fun ss o Rt Xt c => by first | (obtain ⟨rfl, _⟩ := c; rfl) | (obtain ⟨_, rfl, _⟩ := c; rfl) | (obtain ⟨_, _, rfl, _⟩ := c; rfl) | (obtain ⟨_, _, _, rfl, _⟩ := c; rfl) | (obtain ⟨_, _, _, _, rfl, _⟩ := c; rfl) | (obtain ⟨_, _, _, _, _, rfl, _⟩ := c; rfl) | (obtain ⟨_, _, _, _, _, _, rfl, _⟩ := c; rfl) | (obtain ⟨_, _, _, _, _, _, _, rfl, _⟩ := c; rfl) | (obtain ⟨_, _, _, _, _, _, _, _, rfl, _⟩ := c; rfl) | (obtain ⟨_, _, _, _, _, _, _, _, _, rfl, _⟩ := c; rfl) | (obtain ⟨_, _, _, _, _, _, _, _, _, _, rfl, _⟩ := c; rfl) | (obtain ⟨_, _, _, _, _, _, _, _, _, _, _, rfl, _⟩ := c; rfl) | (obtain ⟨_, _, _, _, _, _, _, _, _, _, _, _, rfl, _⟩ := c; rfl) | (obtain ⟨_, _, _, _, _, _, _, _, _, _, _, _, _, rfl, _⟩ := c; rfl) | (obtain ⟨_, _, _, _, _, _, _, _, _, _, _, _, _, _, rfl, _⟩ := c; rfl) | (obtain ⟨_, _, _, _, _, _, _, _, _, _, _, _, _, _, _, rfl, _⟩ := c; rfl)) (fun hr => d__law_words T C__law_word  hr) (fun B W ss o Rt Xt hB c hX => w__law_words hB c)
  obtain ⟨fd__law_sides, F0__law_sides⟩ := c.def_ 26 (d := D__law_sides) rfl
  have F__law_sides : FunD K "_law_sides" "_law_sides" (defArgs s__law_sides) (defBody s__law_sides) (defScope s__law_sides) [] [] (He.ga K "_law_sides") fd__law_sides := F0__law_sides
  have C__law_sides : Cal P w K mg base 2 "_law_sides" ["purse", "mishaps"] (c__law_sides K) := cal_of (t := r__law_sides K) (He5.fun_of F__law_sides) sc__law_sides (He.glo_ok X G (c.fact 26 (f := .glo "_law_sides") rfl)) (FunD.bindsN (ps := ["purse", "mishaps"]) F__law_sides fun _ _ _ _ _ _ us hl => match us, hl with | [_, _], _ => rfl) (fun ss o Rt Xt c => by first | (obtain ⟨rfl, _⟩ := c; rfl) | (obtain ⟨_, rfl, _⟩ := c; rfl) | (obtain ⟨_, _, rfl, _⟩ := c; rfl) | (obtain ⟨_, _, _, rfl, _⟩ := c; rfl) | (obtain ⟨_, _, _, _, rfl, _⟩ := c; rfl) | (obtain ⟨_, _, _, _, _, rfl, _⟩ := c; rfl) | (obtain ⟨_, _, _, _, _, _, rfl, _⟩ := c; rfl) | (obtain ⟨_, _, _, _, _, _, _, rfl, _⟩ := c; rfl) | (obtain ⟨_, _, _, _, _, _, _, _, rfl, _⟩ := c; rfl) | (obtain ⟨_, _, _, _, _, _, _, _, _, rfl, _⟩ := c; rfl) | (obtain ⟨_, _, _, _, _, _, _, _, _, _, rfl, _⟩ := c; rfl) | (obtain ⟨_, _, _, _, _, _, _, _, _, _, _, rfl, _⟩ := c; rfl) | (obtain ⟨_, _, _, _, _, _, _, _, _, _, _, _, rfl, _⟩ := c; rfl) | (obtain ⟨_, _, _, _, _, _, _, _, _, _, _, _, _, rfl, _⟩ := c; rfl) | (obtain ⟨_, _, _, _, _, _, _, _, _, _, _, _, _, _, rfl, _⟩ := c; rfl) | (obtain ⟨_, _, _, _, _, _, _, _, _, _, _, _, _, _, _, rfl, _⟩ := c; rfl)) (fun hr => d__law_sides T C__law_draw  hr) (fun B W ss o Rt Xt hB c hX => w__law_sides hB c)
  obtain ⟨fd__law_letters, F0__law_letters⟩ := c.def_ 27 (d := D__law_letters) rfl
  have F__law_letters : FunD K "_law_letters" "_law_letters" (defArgs s__law_letters) (defBody s__law_letters) (defScope s__law_letters) [] [] (He.ga K "_law_letters") fd__law_letters := F0__law_letters
  have C__law_letters : Cal P w K mg base 3 "_law_letters" ["purse", "helpers", "last", "mishaps", "many"] (c__law_letters K) := cal_of (t := r__law_letters K) (He5.fun_of F__law_letters) sc__law_letters (He.glo_ok X G (c.fact 27 (f := .glo "_law_letters") rfl)) (FunD.bindsN (ps := ["purse", "helpers", "last", "mishaps", "many"]) F__law_letters fun _ _ _ _ _ _ us hl => match us, hl with | [_, _, _, _, _], _ => rfl) (fun ss o Rt Xt c => by first | (obtain ⟨rfl, _⟩ := c; rfl) | (obtain ⟨_, rfl, _⟩ := c; rfl) | (obtain ⟨_, _, rfl, _⟩ := c; rfl) | (obtain ⟨_, _, _, rfl, _⟩ := c; rfl) | (obtain ⟨_, _, _, _, rfl, _⟩ := c; rfl) | (obtain ⟨_, _, _, _, _, rfl, _⟩ := c; rfl) | (obtain ⟨_, _, _, _, _, _, rfl, _⟩ := c; rfl) | (obtain ⟨_, _, _, _, _, _, _, rfl, _⟩ := c; rfl) | (obtain ⟨_, _, _, _, _, _, _, _, rfl, _⟩ := c; rfl) | (obtain ⟨_, _, _, _, _, _, _, _, _, rfl, _⟩ := c; rfl) | (obtain ⟨_, _, _, _, _, _, _, _, _, _, rfl, _⟩ := c; rfl) | (obtain ⟨_, _, _, _, _, _, _, _, _, _, _, rfl, _⟩ := c; rfl) | (obtain ⟨_, _, _, _, _, _, _, _, _, _, _, _, rfl, _⟩ := c; rfl) | (obtain ⟨_, _, _, _, _, _, _, _, _, _, _, _, _, rfl, _⟩ := c; rfl) | (obtain ⟨_, _, _, _, _, _, _, _, _, _, _, _, _, _, rfl, _⟩ := c; rfl) | (obtain ⟨_, _, _, _, _, _, _, _, _, _, _, _, _, _, _, rfl, _⟩ := c; rfl)) (fun hr => d__law_letters T C__law_draw C__law_sides  hr) (fun B W ss o Rt Xt hB c hX => w__law_letters hB c)
  obtain ⟨fd_Plan_check_rows, F0_Plan_check_rows⟩ := c.def_ 45 (d := D_Plan_check_rows) rfl
  have F_Plan_check_rows : FunD K "check_rows" "Plan.check_rows" (defArgs s_Plan_check_rows) (defBody s_Plan_check_rows) (defScope s_Plan_check_rows) [] [] (ma K (He.ga K "Plan") "check_rows") fd_Plan_check_rows := F0_Plan_check_rows
  have C_Plan_check_rows : CalM P w K mg base 5 "Plan" "check_rows" ["self"] (c_Plan_check_rows K) := ⟨fd_Plan_check_rows, fn_of_con (t := r_Plan_check_rows K) (He5.fun_of F_Plan_check_rows) sc_Plan_check_rows (fun ss o Rt Xt c => by first | (obtain ⟨rfl, _⟩ := c; rfl) | (obtain ⟨_, rfl, _⟩ := c; rfl) | (obtain ⟨_, _, rfl, _⟩ := c; rfl) | (obtain ⟨_, _, _, rfl, _⟩ := c; rfl) | (obtain ⟨_, _, _, _, rfl, _⟩ := c; rfl) | (obtain ⟨_, _, _, _, _, rfl, _⟩ := c; rfl) | (obtain ⟨_, _, _, _, _, _, rfl, _⟩ := c; rfl) | (obtain ⟨_, _, _, _, _, _, _, rfl, _⟩ := c; rfl) | (obtain ⟨_, _, _, _, _, _, _, _, rfl, _⟩ := c; rfl) | (obtain ⟨_, _, _, _, _, _, _, _, _, rfl, _⟩ := c; rfl) | (obtain ⟨_, _, _, _, _, _, _, _, _, _, rfl, _⟩ := c; rfl) | (obtain ⟨_, _, _, _, _, _, _, _, _, _, _, rfl, _⟩ := c; rfl) | (obtain ⟨_, _, _, _, _, _, _, _, _, _, _, _, rfl, _⟩ := c; rfl) | (obtain ⟨_, _, _, _, _, _, _, _, _, _, _, _, _, rfl, _⟩ := c; rfl) | (obtain ⟨_, _, _, _, _, _, _, _, _, _, _, _, _, _, rfl, _⟩ := c; rfl) | (obtain ⟨_, _, _, _, _, _, _, _, _, _, _, _, _, _, _, rfl, _⟩ := c; rfl)) (fun hr => d_Plan_check_rows T C_check_courses C_check_decisions C_check_letters C_check_mishaps C_check_rules C_check_sights I_BadPlan hr) (fun B W ss o Rt Xt hB c hX => w_Plan_check_rows T c), He.meth_ok (c.fact 105 (f := .meth "Plan" "check_rows") rfl), T.c_Plan, (FunD.bindsN (ps := ["self"]) F_Plan_check_rows fun _ _ _ _ _ _ us hl => match us, hl with | [_], _ => rfl)⟩
  obtain ⟨fd_Plan_init, F0_Plan_init⟩ := c.def_ 44 (d := D_Plan_init) rfl
  have F_Plan_init : FunD K "__init__" "Plan.__init__" (defArgs s_Plan_init) (defBody s_Plan_init) (defScope s_Plan_init) [] [] (ma K (He.ga K "Plan") "__init__") fd_Plan_init := F0_Plan_init
  have C_Plan_init : CalI P w K mg base 6 "Plan" ["self", "helpers", "last", "mishaps", "courses", "decisions", "rules", "sights", "letters"] (c_Plan_init K) := ⟨fd_Plan_init, fn_of_con (t := r_Plan_init K) (He5.fun_of F_Plan_init) sc_Plan_init (fun ss o Rt Xt c => by first | (obtain ⟨rfl, _⟩ := c; rfl) | (obtain ⟨_, rfl, _⟩ := c; rfl) | (obtain ⟨_, _, rfl, _⟩ := c; rfl) | (obtain ⟨_, _, _, rfl, _⟩ := c; rfl) | (obtain ⟨_, _, _, _, rfl, _⟩ := c; rfl) | (obtain ⟨_, _, _, _, _, rfl, _⟩ := c; rfl) | (obtain ⟨_, _, _, _, _, _, rfl, _⟩ := c; rfl) | (obtain ⟨_, _, _, _, _, _, _, rfl, _⟩ := c; rfl) | (obtain ⟨_, _, _, _, _, _, _, _, rfl, _⟩ := c; rfl) | (obtain ⟨_, _, _, _, _, _, _, _, _, rfl, _⟩ := c; rfl) | (obtain ⟨_, _, _, _, _, _, _, _, _, _, rfl, _⟩ := c; rfl) | (obtain ⟨_, _, _, _, _, _, _, _, _, _, _, rfl, _⟩ := c; rfl) | (obtain ⟨_, _, _, _, _, _, _, _, _, _, _, _, rfl, _⟩ := c; rfl) | (obtain ⟨_, _, _, _, _, _, _, _, _, _, _, _, _, rfl, _⟩ := c; rfl) | (obtain ⟨_, _, _, _, _, _, _, _, _, _, _, _, _, _, rfl, _⟩ := c; rfl) | (obtain ⟨_, _, _, _, _, _, _, _, _, _, _, _, _, _, _, rfl, _⟩ := c; rfl)) (fun hr => d_Plan_init T C_Plan_check_rows C_check_bounds  hr) (fun B W ss o Rt Xt hB c hX => w_Plan_init T hB c), He.mkr_ok (c.fact 95 (f := .mkr "Plan") rfl), He.glo_ok X G (c.fact 94 (f := .glo "Plan") rfl), (FunD.bindsN (ps := ["self", "helpers", "last", "mishaps", "courses", "decisions", "rules", "sights", "letters"]) F_Plan_init fun _ _ _ _ _ _ us hl => match us, hl with | [_, _, _, _, _, _, _, _, _], _ => rfl)⟩
  obtain ⟨fd__law_plan, F0__law_plan⟩ := c.def_ 28 (d := D__law_plan) rfl
  have F__law_plan : FunD K "_law_plan" "_law_plan" (defArgs s__law_plan) (defBody s__law_plan) (defScope s__law_plan) [] [] (He.ga K "_law_plan") fd__law_plan := F0__law_plan
  have C__law_plan : Cal P w K mg base 8 "_law_plan" ["world"] (c__law_plan K) := cal_of (t := r__law_plan K) (He5.fun_of F__law_plan) sc__law_plan (He.glo_ok X G (c.fact 28 (f := .glo "_law_plan") rfl)) (FunD.bindsN (ps := ["world"]) F__law_plan fun _ _ _ _ _ _ us hl => match us, hl with | [_], _ => rfl) (fun ss o Rt Xt c => by first | (obtain ⟨rfl, _⟩ := c; rfl) | (obtain ⟨_, rfl, _⟩ := c; rfl) | (obtain ⟨_, _, rfl, _⟩ := c; rfl) | (obtain ⟨_, _, _, rfl, _⟩ := c; rfl) | (obtain ⟨_, _, _, _, rfl, _⟩ := c; rfl) | (obtain ⟨_, _, _, _, _, rfl, _⟩ := c; rfl) | (obtain ⟨_, _, _, _, _, _, rfl, _⟩ := c; rfl) | (obtain ⟨_, _, _, _, _, _, _, rfl, _⟩ := c; rfl) | (obtain ⟨_, _, _, _, _, _, _, _, rfl, _⟩ := c; rfl) | (obtain ⟨_, _, _, _, _, _, _, _, _, rfl, _⟩ := c; rfl) | (obtain ⟨_, _, _, _, _, _, _, _, _, _, rfl, _⟩ := c; rfl) | (obtain ⟨_, _, _, _, _, _, _, _, _, _, _, rfl, _⟩ := c; rfl) | (obtain ⟨_, _, _, _, _, _, _, _, _, _, _, _, rfl, _⟩ := c; rfl) | (obtain ⟨_, _, _, _, _, _, _, _, _, _, _, _, _, rfl, _⟩ := c; rfl) | (obtain ⟨_, _, _, _, _, _, _, _, _, _, _, _, _, _, rfl, _⟩ := c; rfl) | (obtain ⟨_, _, _, _, _, _, _, _, _, _, _, _, _, _, _, rfl, _⟩ := c; rfl)) (fun hr => d__law_plan T C_Plan_init  hr) (fun B W ss o Rt Xt hB c hX => w__law_plan T hB c)
  obtain ⟨fd__law_matches, F0__law_matches⟩ := c.def_ 29 (d := D__law_matches) rfl
  have F__law_matches : FunD K "_law_matches" "_law_matches" (defArgs s__law_matches) (defBody s__law_matches) (defScope s__law_matches) [] [] (He.ga K "_law_matches") fd__law_matches := F0__law_matches
  have C__law_matches : Cal P w K mg base (0 + 0) "_law_matches" ["told", "due"] (cM 0) := cal_false (He5.fun_of F__law_matches) (He.glo_ok X G (c.fact 29 (f := .glo "_law_matches") rfl)) (FunD.bindsN (ps := ["told", "due"]) F__law_matches fun _ _ _ _ _ _ us hl => match us, hl with | [_, _], _ => rfl) (fun ss o Rt Xt c => by obtain ⟨_, _, _, _, _, _, c, _⟩ := c; exact c)
  have C__law_matches : Cal P w K mg base (0 + 1) "_law_matches" ["told", "due"] (cM 1) := cal_of (t := r__law_matches (cM 0) K) (He5.fun_of F__law_matches) sc__law_matches (He.glo_ok X G (c.fact 29 (f := .glo "_law_matches") rfl)) (FunD.bindsN (ps := ["told", "due"]) F__law_matches fun _ _ _ _ _ _ us hl => match us, hl with | [_, _], _ => rfl) (fun ss o Rt Xt c => by first | (obtain ⟨rfl, _⟩ := c; rfl) | (obtain ⟨_, rfl, _⟩ := c; rfl) | (obtain ⟨_, _, rfl, _⟩ := c; rfl) | (obtain ⟨_, _, _, rfl, _⟩ := c; rfl) | (obtain ⟨_, _, _, _, rfl, _⟩ := c; rfl) | (obtain ⟨_, _, _, _, _, rfl, _⟩ := c; rfl) | (obtain ⟨_, _, _, _, _, _, rfl, _⟩ := c; rfl) | (obtain ⟨_, _, _, _, _, _, _, rfl, _⟩ := c; rfl) | (obtain ⟨_, _, _, _, _, _, _, _, rfl, _⟩ := c; rfl) | (obtain ⟨_, _, _, _, _, _, _, _, _, rfl, _⟩ := c; rfl) | (obtain ⟨_, _, _, _, _, _, _, _, _, _, rfl, _⟩ := c; rfl) | (obtain ⟨_, _, _, _, _, _, _, _, _, _, _, rfl, _⟩ := c; rfl) | (obtain ⟨_, _, _, _, _, _, _, _, _, _, _, _, rfl, _⟩ := c; rfl) | (obtain ⟨_, _, _, _, _, _, _, _, _, _, _, _, _, rfl, _⟩ := c; rfl) | (obtain ⟨_, _, _, _, _, _, _, _, _, _, _, _, _, _, rfl, _⟩ := c; rfl) | (obtain ⟨_, _, _, _, _, _, _, _, _, _, _, _, _, _, _, rfl, _⟩ := c; rfl)) (fun hr => d__law_matches T C__law_matches  hr) (fun B W ss o Rt Xt hB c hX => w__law_matches c)
  have C__law_matches : Cal P w K mg base (0 + 2) "_law_matches" ["told", "due"] (cM 2) := cal_of (t := r__law_matches (cM 1) K) (He5.fun_of F__law_matches) sc__law_matches (He.glo_ok X G (c.fact 29 (f := .glo "_law_matches") rfl)) (FunD.bindsN (ps := ["told", "due"]) F__law_matches fun _ _ _ _ _ _ us hl => match us, hl with | [_, _], _ => rfl) (fun ss o Rt Xt c => by first | (obtain ⟨rfl, _⟩ := c; rfl) | (obtain ⟨_, rfl, _⟩ := c; rfl) | (obtain ⟨_, _, rfl, _⟩ := c; rfl) | (obtain ⟨_, _, _, rfl, _⟩ := c; rfl) | (obtain ⟨_, _, _, _, rfl, _⟩ := c; rfl) | (obtain ⟨_, _, _, _, _, rfl, _⟩ := c; rfl) | (obtain ⟨_, _, _, _, _, _, rfl, _⟩ := c; rfl) | (obtain ⟨_, _, _, _, _, _, _, rfl, _⟩ := c; rfl) | (obtain ⟨_, _, _, _, _, _, _, _, rfl, _⟩ := c; rfl) | (obtain ⟨_, _, _, _, _, _, _, _, _, rfl, _⟩ := c; rfl) | (obtain ⟨_, _, _, _, _, _, _, _, _, _, rfl, _⟩ := c; rfl) | (obtain ⟨_, _, _, _, _, _, _, _, _, _, _, rfl, _⟩ := c; rfl) | (obtain ⟨_, _, _, _, _, _, _, _, _, _, _, _, rfl, _⟩ := c; rfl) | (obtain ⟨_, _, _, _, _, _, _, _, _, _, _, _, _, rfl, _⟩ := c; rfl) | (obtain ⟨_, _, _, _, _, _, _, _, _, _, _, _, _, _, rfl, _⟩ := c; rfl) | (obtain ⟨_, _, _, _, _, _, _, _, _, _, _, _, _, _, _, rfl, _⟩ := c; rfl)) (fun hr => d__law_matches T C__law_matches  hr) (fun B W ss o Rt Xt hB c hX => w__law_matches c)
  have C__law_matches : Cal P w K mg base (0 + 3) "_law_matches" ["told", "due"] (cM 3) := cal_of (t := r__law_matches (cM 2) K) (He5.fun_of F__law_matches) sc__law_matches (He.glo_ok X G (c.fact 29 (f := .glo "_law_matches") rfl)) (FunD.bindsN (ps := ["told", "due"]) F__law_matches fun _ _ _ _ _ _ us hl => match us, hl with | [_, _], _ => rfl) (fun ss o Rt Xt c => by first | (obtain ⟨rfl, _⟩ := c; rfl) | (obtain ⟨_, rfl, _⟩ := c; rfl) | (obtain ⟨_, _, rfl, _⟩ := c; rfl) | (obtain ⟨_, _, _, rfl, _⟩ := c; rfl) | (obtain ⟨_, _, _, _, rfl, _⟩ := c; rfl) | (obtain ⟨_, _, _, _, _, rfl, _⟩ := c; rfl) | (obtain ⟨_, _, _, _, _, _, rfl, _⟩ := c; rfl) | (obtain ⟨_, _, _, _, _, _, _, rfl, _⟩ := c; rfl) | (obtain ⟨_, _, _, _, _, _, _, _, rfl, _⟩ := c; rfl) | (obtain ⟨_, _, _, _, _, _, _, _, _, rfl, _⟩ := c; rfl) | (obtain ⟨_, _, _, _, _, _, _, _, _, _, rfl, _⟩ := c; rfl) | (obtain ⟨_, _, _, _, _, _, _, _, _, _, _, rfl, _⟩ := c; rfl) | (obtain ⟨_, _, _, _, _, _, _, _, _, _, _, _, rfl, _⟩ := c; rfl) | (obtain ⟨_, _, _, _, _, _, _, _, _, _, _, _, _, rfl, _⟩ := c; rfl) | (obtain ⟨_, _, _, _, _, _, _, _, _, _, _, _, _, _, rfl, _⟩ := c; rfl) | (obtain ⟨_, _, _, _, _, _, _, _, _, _, _, _, _, _, _, rfl, _⟩ := c; rfl)) (fun hr => d__law_matches T C__law_matches  hr) (fun B W ss o Rt Xt hB c hX => w__law_matches c)
  have C__law_matches : Cal P w K mg base (0 + 4) "_law_matches" ["told", "due"] (cM 4) := cal_of (t := r__law_matches (cM 3) K) (He5.fun_of F__law_matches) sc__law_matches (He.glo_ok X G (c.fact 29 (f := .glo "_law_matches") rfl)) (FunD.bindsN (ps := ["told", "due"]) F__law_matches fun _ _ _ _ _ _ us hl => match us, hl with | [_, _], _ => rfl) (fun ss o Rt Xt c => by first | (obtain ⟨rfl, _⟩ := c; rfl) | (obtain ⟨_, rfl, _⟩ := c; rfl) | (obtain ⟨_, _, rfl, _⟩ := c; rfl) | (obtain ⟨_, _, _, rfl, _⟩ := c; rfl) | (obtain ⟨_, _, _, _, rfl, _⟩ := c; rfl) | (obtain ⟨_, _, _, _, _, rfl, _⟩ := c; rfl) | (obtain ⟨_, _, _, _, _, _, rfl, _⟩ := c; rfl) | (obtain ⟨_, _, _, _, _, _, _, rfl, _⟩ := c; rfl) | (obtain ⟨_, _, _, _, _, _, _, _, rfl, _⟩ := c; rfl) | (obtain ⟨_, _, _, _, _, _, _, _, _, rfl, _⟩ := c; rfl) | (obtain ⟨_, _, _, _, _, _, _, _, _, _, rfl, _⟩ := c; rfl) | (obtain ⟨_, _, _, _, _, _, _, _, _, _, _, rfl, _⟩ := c; rfl) | (obtain ⟨_, _, _, _, _, _, _, _, _, _, _, _, rfl, _⟩ := c; rfl) | (obtain ⟨_, _, _, _, _, _, _, _, _, _, _, _, _, rfl, _⟩ := c; rfl) | (obtain ⟨_, _, _, _, _, _, _, _, _, _, _, _, _, _, rfl, _⟩ := c; rfl) | (obtain ⟨_, _, _, _, _, _, _, _, _, _, _, _, _, _, _, rfl, _⟩ := c; rfl)) (fun hr => d__law_matches T C__law_matches  hr) (fun B W ss o Rt Xt hB c hX => w__law_matches c)
  have C__law_matches : Cal P w K mg base 4 "_law_matches" ["told", "due"] (c__law_matches K) := C__law_matches
  obtain ⟨fd__law_own_spread, F0__law_own_spread⟩ := c.def_ 30 (d := D__law_own_spread) rfl
  have F__law_own_spread : FunD K "_law_own_spread" "_law_own_spread" (defArgs s__law_own_spread) (defBody s__law_own_spread) (defScope s__law_own_spread) [] [] (He.ga K "_law_own_spread") fd__law_own_spread := F0__law_own_spread
  have C__law_own_spread : Cal P w K mg base 1 "_law_own_spread" ["world", "starts"] (c__law_own_spread K) := cal_of (t := r__law_own_spread K) (He5.fun_of F__law_own_spread) sc__law_own_spread (He.glo_ok X G (c.fact 30 (f := .glo "_law_own_spread") rfl)) (FunD.bindsN (ps := ["world", "starts"]) F__law_own_spread fun _ _ _ _ _ _ us hl => match us, hl with | [_, _], _ => rfl) (fun ss o Rt Xt c => by first | (obtain ⟨rfl, _⟩ := c; rfl) | (obtain ⟨_, rfl, _⟩ := c; rfl) | (obtain ⟨_, _, rfl, _⟩ := c; rfl) | (obtain ⟨_, _, _, rfl, _⟩ := c; rfl) | (obtain ⟨_, _, _, _, rfl, _⟩ := c; rfl) | (obtain ⟨_, _, _, _, _, rfl, _⟩ := c; rfl) | (obtain ⟨_, _, _, _, _, _, rfl, _⟩ := c; rfl) | (obtain ⟨_, _, _, _, _, _, _, rfl, _⟩ := c; rfl) | (obtain ⟨_, _, _, _, _, _, _, _, rfl, _⟩ := c; rfl) | (obtain ⟨_, _, _, _, _, _, _, _, _, rfl, _⟩ := c; rfl) | (obtain ⟨_, _, _, _, _, _, _, _, _, _, rfl, _⟩ := c; rfl) | (obtain ⟨_, _, _, _, _, _, _, _, _, _, _, rfl, _⟩ := c; rfl) | (obtain ⟨_, _, _, _, _, _, _, _, _, _, _, _, rfl, _⟩ := c; rfl) | (obtain ⟨_, _, _, _, _, _, _, _, _, _, _, _, _, rfl, _⟩ := c; rfl) | (obtain ⟨_, _, _, _, _, _, _, _, _, _, _, _, _, _, rfl, _⟩ := c; rfl) | (obtain ⟨_, _, _, _, _, _, _, _, _, _, _, _, _, _, _, rfl, _⟩ := c; rfl)) (fun hr => d__law_own_spread T   hr) (fun B W ss o Rt Xt hB c hX => w__law_own_spread T c)
  obtain ⟨fd__law_own_takers, F0__law_own_takers⟩ := c.def_ 31 (d := D__law_own_takers) rfl
  have F__law_own_takers : FunD K "_law_own_takers" "_law_own_takers" (defArgs s__law_own_takers) (defBody s__law_own_takers) (defScope s__law_own_takers) [] [] (He.ga K "_law_own_takers") fd__law_own_takers := F0__law_own_takers
  have C__law_own_takers : Cal P w K mg base 1 "_law_own_takers" ["world", "knowing"] (c__law_own_takers K) := cal_of (t := r__law_own_takers K) (He5.fun_of F__law_own_takers) sc__law_own_takers (He.glo_ok X G (c.fact 31 (f := .glo "_law_own_takers") rfl)) (FunD.bindsN (ps := ["world", "knowing"]) F__law_own_takers fun _ _ _ _ _ _ us hl => match us, hl with | [_, _], _ => rfl) (fun ss o Rt Xt c => by first | (obtain ⟨rfl, _⟩ := c; rfl) | (obtain ⟨_, rfl, _⟩ := c; rfl) | (obtain ⟨_, _, rfl, _⟩ := c; rfl) | (obtain ⟨_, _, _, rfl, _⟩ := c; rfl) | (obtain ⟨_, _, _, _, rfl, _⟩ := c; rfl) | (obtain ⟨_, _, _, _, _, rfl, _⟩ := c; rfl) | (obtain ⟨_, _, _, _, _, _, rfl, _⟩ := c; rfl) | (obtain ⟨_, _, _, _, _, _, _, rfl, _⟩ := c; rfl) | (obtain ⟨_, _, _, _, _, _, _, _, rfl, _⟩ := c; rfl) | (obtain ⟨_, _, _, _, _, _, _, _, _, rfl, _⟩ := c; rfl) | (obtain ⟨_, _, _, _, _, _, _, _, _, _, rfl, _⟩ := c; rfl) | (obtain ⟨_, _, _, _, _, _, _, _, _, _, _, rfl, _⟩ := c; rfl) | (obtain ⟨_, _, _, _, _, _, _, _, _, _, _, _, rfl, _⟩ := c; rfl) | (obtain ⟨_, _, _, _, _, _, _, _, _, _, _, _, _, rfl, _⟩ := c; rfl) | (obtain ⟨_, _, _, _, _, _, _, _, _, _, _, _, _, _, rfl, _⟩ := c; rfl) | (obtain ⟨_, _, _, _, _, _, _, _, _, _, _, _, _, _, _, rfl, _⟩ := c; rfl)) (fun hr => d__law_own_takers T   hr) (fun B W ss o Rt Xt hB c hX => w__law_own_takers T c)
  obtain ⟨fd__law_word_world, F0__law_word_world⟩ := c.def_ 32 (d := D__law_word_world) rfl
  have F__law_word_world : FunD K "_law_word_world" "_law_word_world" (defArgs s__law_word_world) (defBody s__law_word_world) (defScope s__law_word_world) [] [] (He.ga K "_law_word_world") fd__law_word_world := F0__law_word_world
  have C__law_word_world : Cal P w K mg base 4 "_law_word_world" ["purse"] (c__law_word_world K) := cal_of (t := r__law_word_world K) (He5.fun_of F__law_word_world) sc__law_word_world (He.glo_ok X G (c.fact 32 (f := .glo "_law_word_world") rfl)) (FunD.bindsN (ps := ["purse"]) F__law_word_world fun _ _ _ _ _ _ us hl => match us, hl with | [_], _ => rfl) (fun ss o Rt Xt c => by first | (obtain ⟨rfl, _⟩ := c; rfl) | (obtain ⟨_, rfl, _⟩ := c; rfl) | (obtain ⟨_, _, rfl, _⟩ := c; rfl) | (obtain ⟨_, _, _, rfl, _⟩ := c; rfl) | (obtain ⟨_, _, _, _, rfl, _⟩ := c; rfl) | (obtain ⟨_, _, _, _, _, rfl, _⟩ := c; rfl) | (obtain ⟨_, _, _, _, _, _, rfl, _⟩ := c; rfl) | (obtain ⟨_, _, _, _, _, _, _, rfl, _⟩ := c; rfl) | (obtain ⟨_, _, _, _, _, _, _, _, rfl, _⟩ := c; rfl) | (obtain ⟨_, _, _, _, _, _, _, _, _, rfl, _⟩ := c; rfl) | (obtain ⟨_, _, _, _, _, _, _, _, _, _, rfl, _⟩ := c; rfl) | (obtain ⟨_, _, _, _, _, _, _, _, _, _, _, rfl, _⟩ := c; rfl) | (obtain ⟨_, _, _, _, _, _, _, _, _, _, _, _, rfl, _⟩ := c; rfl) | (obtain ⟨_, _, _, _, _, _, _, _, _, _, _, _, _, rfl, _⟩ := c; rfl) | (obtain ⟨_, _, _, _, _, _, _, _, _, _, _, _, _, _, rfl, _⟩ := c; rfl) | (obtain ⟨_, _, _, _, _, _, _, _, _, _, _, _, _, _, _, rfl, _⟩ := c; rfl)) (fun hr => d__law_word_world T C__law_draw C__law_letters C__law_words  hr) (fun B W ss o Rt Xt hB c hX => w__law_word_world T hB c)
  obtain ⟨fd__law_open_letter, F0__law_open_letter⟩ := c.def_ 33 (d := D__law_open_letter) rfl
  have F__law_open_letter : FunD K "_law_open_letter" "_law_open_letter" (defArgs s__law_open_letter) (defBody s__law_open_letter) (defScope s__law_open_letter) [] [] (He.ga K "_law_open_letter") fd__law_open_letter := F0__law_open_letter
  have C__law_open_letter : Cal P w K mg base 1 "_law_open_letter" ["world", "knowing"] (c__law_open_letter K) := cal_of (t := r__law_open_letter K) (He5.fun_of F__law_open_letter) sc__law_open_letter (He.glo_ok X G (c.fact 33 (f := .glo "_law_open_letter") rfl)) (FunD.bindsN (ps := ["world", "knowing"]) F__law_open_letter fun _ _ _ _ _ _ us hl => match us, hl with | [_, _], _ => rfl) (fun ss o Rt Xt c => by first | (obtain ⟨rfl, _⟩ := c; rfl) | (obtain ⟨_, rfl, _⟩ := c; rfl) | (obtain ⟨_, _, rfl, _⟩ := c; rfl) | (obtain ⟨_, _, _, rfl, _⟩ := c; rfl) | (obtain ⟨_, _, _, _, rfl, _⟩ := c; rfl) | (obtain ⟨_, _, _, _, _, rfl, _⟩ := c; rfl) | (obtain ⟨_, _, _, _, _, _, rfl, _⟩ := c; rfl) | (obtain ⟨_, _, _, _, _, _, _, rfl, _⟩ := c; rfl) | (obtain ⟨_, _, _, _, _, _, _, _, rfl, _⟩ := c; rfl) | (obtain ⟨_, _, _, _, _, _, _, _, _, rfl, _⟩ := c; rfl) | (obtain ⟨_, _, _, _, _, _, _, _, _, _, rfl, _⟩ := c; rfl) | (obtain ⟨_, _, _, _, _, _, _, _, _, _, _, rfl, _⟩ := c; rfl) | (obtain ⟨_, _, _, _, _, _, _, _, _, _, _, _, rfl, _⟩ := c; rfl) | (obtain ⟨_, _, _, _, _, _, _, _, _, _, _, _, _, rfl, _⟩ := c; rfl) | (obtain ⟨_, _, _, _, _, _, _, _, _, _, _, _, _, _, rfl, _⟩ := c; rfl) | (obtain ⟨_, _, _, _, _, _, _, _, _, _, _, _, _, _, _, rfl, _⟩ := c; rfl)) (fun hr => d__law_open_letter T   hr) (fun B W ss o Rt Xt hB c hX => w__law_open_letter T c)
  obtain ⟨fd__law_every_list, F0__law_every_list⟩ := c.def_ 34 (d := D__law_every_list) rfl
  have F__law_every_list : FunD K "_law_every_list" "_law_every_list" (defArgs s__law_every_list) (defBody s__law_every_list) (defScope s__law_every_list) [] [] (He.ga K "_law_every_list") fd__law_every_list := F0__law_every_list
  have C__law_every_list : Cal P w K mg base 1 "_law_every_list" ["world"] (c__law_every_list K) := cal_of (t := r__law_every_list K) (He5.fun_of F__law_every_list) sc__law_every_list (He.glo_ok X G (c.fact 34 (f := .glo "_law_every_list") rfl)) (FunD.bindsN (ps := ["world"]) F__law_every_list fun _ _ _ _ _ _ us hl => match us, hl with | [_], _ => rfl) (fun ss o Rt Xt c => by first | (obtain ⟨rfl, _⟩ := c; rfl) | (obtain ⟨_, rfl, _⟩ := c; rfl) | (obtain ⟨_, _, rfl, _⟩ := c; rfl) | (obtain ⟨_, _, _, rfl, _⟩ := c; rfl) | (obtain ⟨_, _, _, _, rfl, _⟩ := c; rfl) | (obtain ⟨_, _, _, _, _, rfl, _⟩ := c; rfl) | (obtain ⟨_, _, _, _, _, _, rfl, _⟩ := c; rfl) | (obtain ⟨_, _, _, _, _, _, _, rfl, _⟩ := c; rfl) | (obtain ⟨_, _, _, _, _, _, _, _, rfl, _⟩ := c; rfl) | (obtain ⟨_, _, _, _, _, _, _, _, _, rfl, _⟩ := c; rfl) | (obtain ⟨_, _, _, _, _, _, _, _, _, _, rfl, _⟩ := c; rfl) | (obtain ⟨_, _, _, _, _, _, _, _, _, _, _, rfl, _⟩ := c; rfl) | (obtain ⟨_, _, _, _, _, _, _, _, _, _, _, _, rfl, _⟩ := c; rfl) | (obtain ⟨_, _, _, _, _, _, _, _, _, _, _, _, _, rfl, _⟩ := c; rfl) | (obtain ⟨_, _, _, _, _, _, _, _, _, _, _, _, _, _, rfl, _⟩ := c; rfl) | (obtain ⟨_, _, _, _, _, _, _, _, _, _, _, _, _, _, _, rfl, _⟩ := c; rfl)) (fun hr => d__law_every_list T   hr) (fun B W ss o Rt Xt hB c hX => w__law_every_list T c)
  obtain ⟨fd__law_least_closed, F0__law_least_closed⟩ := c.def_ 35 (d := D__law_least_closed) rfl
  have F__law_least_closed : FunD K "_law_least_closed" "_law_least_closed" (defArgs s__law_least_closed) (defBody s__law_least_closed) (defScope s__law_least_closed) [] [] (He.ga K "_law_least_closed") fd__law_least_closed := F0__law_least_closed
  have C__law_least_closed : Cal P w K mg base 1 "_law_least_closed" ["world", "closed", "starts"] (c__law_least_closed K) := cal_of (t := r__law_least_closed K) (He5.fun_of F__law_least_closed) sc__law_least_closed (He.glo_ok X G (c.fact 35 (f := .glo "_law_least_closed") rfl)) (FunD.bindsN (ps := ["world", "closed", "starts"]) F__law_least_closed fun _ _ _ _ _ _ us hl => match us, hl with | [_, _, _], _ => rfl) (fun ss o Rt Xt c => by first | (obtain ⟨rfl, _⟩ := c; rfl) | (obtain ⟨_, rfl, _⟩ := c; rfl) | (obtain ⟨_, _, rfl, _⟩ := c; rfl) | (obtain ⟨_, _, _, rfl, _⟩ := c; rfl) | (obtain ⟨_, _, _, _, rfl, _⟩ := c; rfl) | (obtain ⟨_, _, _, _, _, rfl, _⟩ := c; rfl) | (obtain ⟨_, _, _, _, _, _, rfl, _⟩ := c; rfl) | (obtain ⟨_, _, _, _, _, _, _, rfl, _⟩ := c; rfl) | (obtain ⟨_, _, _, _, _, _, _, _, rfl, _⟩ := c; rfl) | (obtain ⟨_, _, _, _, _, _, _, _, _, rfl, _⟩ := c; rfl) | (obtain ⟨_, _, _, _, _, _, _, _, _, _, rfl, _⟩ := c; rfl) | (obtain ⟨_, _, _, _, _, _, _, _, _, _, _, rfl, _⟩ := c; rfl) | (obtain ⟨_, _, _, _, _, _, _, _, _, _, _, _, rfl, _⟩ := c; rfl) | (obtain ⟨_, _, _, _, _, _, _, _, _, _, _, _, _, rfl, _⟩ := c; rfl) | (obtain ⟨_, _, _, _, _, _, _, _, _, _, _, _, _, _, rfl, _⟩ := c; rfl) | (obtain ⟨_, _, _, _, _, _, _, _, _, _, _, _, _, _, _, rfl, _⟩ := c; rfl)) (fun hr => d__law_least_closed T   hr) (fun B W ss o Rt Xt hB c hX => w__law_least_closed T c)
  obtain ⟨fd__law_spread_told, F0__law_spread_told⟩ := c.def_ 36 (d := D__law_spread_told) rfl
  have F__law_spread_told : FunD K "_law_spread_told" "_law_spread_told" (defArgs s__law_spread_told) (defBody s__law_spread_told) (defScope s__law_spread_told) [] [] (He.ga K "_law_spread_told") fd__law_spread_told := F0__law_spread_told
  have C__law_spread_told : Cal P w K mg base 5 "_law_spread_told" ["plan", "starts"] (c__law_spread_told K) := cal_of (t := r__law_spread_told K) (He5.fun_of F__law_spread_told) sc__law_spread_told (He.glo_ok X G (c.fact 36 (f := .glo "_law_spread_told") rfl)) (FunD.bindsN (ps := ["plan", "starts"]) F__law_spread_told fun _ _ _ _ _ _ us hl => match us, hl with | [_, _], _ => rfl) (fun ss o Rt Xt c => by first | (obtain ⟨rfl, _⟩ := c; rfl) | (obtain ⟨_, rfl, _⟩ := c; rfl) | (obtain ⟨_, _, rfl, _⟩ := c; rfl) | (obtain ⟨_, _, _, rfl, _⟩ := c; rfl) | (obtain ⟨_, _, _, _, rfl, _⟩ := c; rfl) | (obtain ⟨_, _, _, _, _, rfl, _⟩ := c; rfl) | (obtain ⟨_, _, _, _, _, _, rfl, _⟩ := c; rfl) | (obtain ⟨_, _, _, _, _, _, _, rfl, _⟩ := c; rfl) | (obtain ⟨_, _, _, _, _, _, _, _, rfl, _⟩ := c; rfl) | (obtain ⟨_, _, _, _, _, _, _, _, _, rfl, _⟩ := c; rfl) | (obtain ⟨_, _, _, _, _, _, _, _, _, _, rfl, _⟩ := c; rfl) | (obtain ⟨_, _, _, _, _, _, _, _, _, _, _, rfl, _⟩ := c; rfl) | (obtain ⟨_, _, _, _, _, _, _, _, _, _, _, _, rfl, _⟩ := c; rfl) | (obtain ⟨_, _, _, _, _, _, _, _, _, _, _, _, _, rfl, _⟩ := c; rfl) | (obtain ⟨_, _, _, _, _, _, _, _, _, _, _, _, _, _, rfl, _⟩ := c; rfl) | (obtain ⟨_, _, _, _, _, _, _, _, _, _, _, _, _, _, _, rfl, _⟩ := c; rfl)) (fun hr => d__law_spread_told T C_spread_of  hr) (fun B W ss o Rt Xt hB c hX => w__law_spread_told T hB c)
  obtain ⟨fd__law_list_told, F0__law_list_told⟩ := c.def_ 37 (d := D__law_list_told) rfl
  have F__law_list_told : FunD K "_law_list_told" "_law_list_told" (defArgs s__law_list_told) (defBody s__law_list_told) (defScope s__law_list_told) [] [] (He.ga K "_law_list_told") fd__law_list_told := F0__law_list_told
  have C__law_list_told : Cal P w K mg base 6 "_law_list_told" ["plan", "kind", "knowing"] (c__law_list_told K) := cal_of (t := r__law_list_told K) (He5.fun_of F__law_list_told) sc__law_list_told (He.glo_ok X G (c.fact 37 (f := .glo "_law_list_told") rfl)) (FunD.bindsN (ps := ["plan", "kind", "knowing"]) F__law_list_told fun _ _ _ _ _ _ us hl => match us, hl with | [_, _, _], _ => rfl) (fun ss o Rt Xt c => by first | (obtain ⟨rfl, _⟩ := c; rfl) | (obtain ⟨_, rfl, _⟩ := c; rfl) | (obtain ⟨_, _, rfl, _⟩ := c; rfl) | (obtain ⟨_, _, _, rfl, _⟩ := c; rfl) | (obtain ⟨_, _, _, _, rfl, _⟩ := c; rfl) | (obtain ⟨_, _, _, _, _, rfl, _⟩ := c; rfl) | (obtain ⟨_, _, _, _, _, _, rfl, _⟩ := c; rfl) | (obtain ⟨_, _, _, _, _, _, _, rfl, _⟩ := c; rfl) | (obtain ⟨_, _, _, _, _, _, _, _, rfl, _⟩ := c; rfl) | (obtain ⟨_, _, _, _, _, _, _, _, _, rfl, _⟩ := c; rfl) | (obtain ⟨_, _, _, _, _, _, _, _, _, _, rfl, _⟩ := c; rfl) | (obtain ⟨_, _, _, _, _, _, _, _, _, _, _, rfl, _⟩ := c; rfl) | (obtain ⟨_, _, _, _, _, _, _, _, _, _, _, _, rfl, _⟩ := c; rfl) | (obtain ⟨_, _, _, _, _, _, _, _, _, _, _, _, _, rfl, _⟩ := c; rfl) | (obtain ⟨_, _, _, _, _, _, _, _, _, _, _, _, _, _, rfl, _⟩ := c; rfl) | (obtain ⟨_, _, _, _, _, _, _, _, _, _, _, _, _, _, _, rfl, _⟩ := c; rfl)) (fun hr => d__law_list_told T C_judge_knowing C_takers_of  hr) (fun B W ss o Rt Xt hB c hX => w__law_list_told T hB c)
  obtain ⟨fd__law_name_told, F0__law_name_told⟩ := c.def_ 38 (d := D__law_name_told) rfl
  have F__law_name_told : FunD K "_law_name_told" "_law_name_told" (defArgs s__law_name_told) (defBody s__law_name_told) (defScope s__law_name_told) [] [] (He.ga K "_law_name_told") fd__law_name_told := F0__law_name_told
  have C__law_name_told : Cal P w K mg base 7 "_law_name_told" ["plan", "kind", "one", "other"] (c__law_name_told K) := cal_of (t := r__law_name_told K) (He5.fun_of F__law_name_told) sc__law_name_told (He.glo_ok X G (c.fact 38 (f := .glo "_law_name_told") rfl)) (FunD.bindsN (ps := ["plan", "kind", "one", "other"]) F__law_name_told fun _ _ _ _ _ _ us hl => match us, hl with | [_, _, _, _], _ => rfl) (fun ss o Rt Xt c => by first | (obtain ⟨rfl, _⟩ := c; rfl) | (obtain ⟨_, rfl, _⟩ := c; rfl) | (obtain ⟨_, _, rfl, _⟩ := c; rfl) | (obtain ⟨_, _, _, rfl, _⟩ := c; rfl) | (obtain ⟨_, _, _, _, rfl, _⟩ := c; rfl) | (obtain ⟨_, _, _, _, _, rfl, _⟩ := c; rfl) | (obtain ⟨_, _, _, _, _, _, rfl, _⟩ := c; rfl) | (obtain ⟨_, _, _, _, _, _, _, rfl, _⟩ := c; rfl) | (obtain ⟨_, _, _, _, _, _, _, _, rfl, _⟩ := c; rfl) | (obtain ⟨_, _, _, _, _, _, _, _, _, rfl, _⟩ := c; rfl) | (obtain ⟨_, _, _, _, _, _, _, _, _, _, rfl, _⟩ := c; rfl) | (obtain ⟨_, _, _, _, _, _, _, _, _, _, _, rfl, _⟩ := c; rfl) | (obtain ⟨_, _, _, _, _, _, _, _, _, _, _, _, rfl, _⟩ := c; rfl) | (obtain ⟨_, _, _, _, _, _, _, _, _, _, _, _, _, rfl, _⟩ := c; rfl) | (obtain ⟨_, _, _, _, _, _, _, _, _, _, _, _, _, _, rfl, _⟩ := c; rfl) | (obtain ⟨_, _, _, _, _, _, _, _, _, _, _, _, _, _, _, rfl, _⟩ := c; rfl)) (fun hr => d__law_name_told T C_are_together C_cone_of  hr) (fun B W ss o Rt Xt hB c hX => w__law_name_told T hB c)
  obtain ⟨fd__law_reach_told, F0__law_reach_told⟩ := c.def_ 39 (d := D__law_reach_told) rfl
  have F__law_reach_told : FunD K "_law_reach_told" "_law_reach_told" (defArgs s__law_reach_told) (defBody s__law_reach_told) (defScope s__law_reach_told) [] [] (He.ga K "_law_reach_told") fd__law_reach_told := F0__law_reach_told
  have C__law_reach_told : Cal P w K mg base 6 "_law_reach_told" ["plan", "helper", "moment"] (c__law_reach_told K) := cal_of (t := r__law_reach_told K) (He5.fun_of F__law_reach_told) sc__law_reach_told (He.glo_ok X G (c.fact 39 (f := .glo "_law_reach_told") rfl)) (FunD.bindsN (ps := ["plan", "helper", "moment"]) F__law_reach_told fun _ _ _ _ _ _ us hl => match us, hl with | [_, _, _], _ => rfl) (fun ss o Rt Xt c => by first | (obtain ⟨rfl, _⟩ := c; rfl) | (obtain ⟨_, rfl, _⟩ := c; rfl) | (obtain ⟨_, _, rfl, _⟩ := c; rfl) | (obtain ⟨_, _, _, rfl, _⟩ := c; rfl) | (obtain ⟨_, _, _, _, rfl, _⟩ := c; rfl) | (obtain ⟨_, _, _, _, _, rfl, _⟩ := c; rfl) | (obtain ⟨_, _, _, _, _, _, rfl, _⟩ := c; rfl) | (obtain ⟨_, _, _, _, _, _, _, rfl, _⟩ := c; rfl) | (obtain ⟨_, _, _, _, _, _, _, _, rfl, _⟩ := c; rfl) | (obtain ⟨_, _, _, _, _, _, _, _, _, rfl, _⟩ := c; rfl) | (obtain ⟨_, _, _, _, _, _, _, _, _, _, rfl, _⟩ := c; rfl) | (obtain ⟨_, _, _, _, _, _, _, _, _, _, _, rfl, _⟩ := c; rfl) | (obtain ⟨_, _, _, _, _, _, _, _, _, _, _, _, rfl, _⟩ := c; rfl) | (obtain ⟨_, _, _, _, _, _, _, _, _, _, _, _, _, rfl, _⟩ := c; rfl) | (obtain ⟨_, _, _, _, _, _, _, _, _, _, _, _, _, _, rfl, _⟩ := c; rfl) | (obtain ⟨_, _, _, _, _, _, _, _, _, _, _, _, _, _, _, rfl, _⟩ := c; rfl)) (fun hr => d__law_reach_told T C_reach_of  hr) (fun B W ss o Rt Xt hB c hX => w__law_reach_told T hB c)
  obtain ⟨fd__law_decisions_right, F0__law_decisions_right⟩ := c.def_ 40 (d := D__law_decisions_right) rfl
  have F__law_decisions_right : FunD K "_law_decisions_right" "_law_decisions_right" (defArgs s__law_decisions_right) (defBody s__law_decisions_right) (defScope s__law_decisions_right) [] [] (He.ga K "_law_decisions_right") fd__law_decisions_right := F0__law_decisions_right
  have C__law_decisions_right : Cal P w K mg base 7 "_law_decisions_right" ["plan", "world", "closed"] (c__law_decisions_right K) := cal_of (t := r__law_decisions_right K) (He5.fun_of F__law_decisions_right) sc__law_decisions_right (He.glo_ok X G (c.fact 40 (f := .glo "_law_decisions_right") rfl)) (FunD.bindsN (ps := ["plan", "world", "closed"]) F__law_decisions_right fun _ _ _ _ _ _ us hl => match us, hl with | [_, _, _], _ => rfl) (fun ss o Rt Xt c => by first | (obtain ⟨rfl, _⟩ := c; rfl) | (obtain ⟨_, rfl, _⟩ := c; rfl) | (obtain ⟨_, _, rfl, _⟩ := c; rfl) | (obtain ⟨_, _, _, rfl, _⟩ := c; rfl) | (obtain ⟨_, _, _, _, rfl, _⟩ := c; rfl) | (obtain ⟨_, _, _, _, _, rfl, _⟩ := c; rfl) | (obtain ⟨_, _, _, _, _, _, rfl, _⟩ := c; rfl) | (obtain ⟨_, _, _, _, _, _, _, rfl, _⟩ := c; rfl) | (obtain ⟨_, _, _, _, _, _, _, _, rfl, _⟩ := c; rfl) | (obtain ⟨_, _, _, _, _, _, _, _, _, rfl, _⟩ := c; rfl) | (obtain ⟨_, _, _, _, _, _, _, _, _, _, rfl, _⟩ := c; rfl) | (obtain ⟨_, _, _, _, _, _, _, _, _, _, _, rfl, _⟩ := c; rfl) | (obtain ⟨_, _, _, _, _, _, _, _, _, _, _, _, rfl, _⟩ := c; rfl) | (obtain ⟨_, _, _, _, _, _, _, _, _, _, _, _, _, rfl, _⟩ := c; rfl) | (obtain ⟨_, _, _, _, _, _, _, _, _, _, _, _, _, _, rfl, _⟩ := c; rfl) | (obtain ⟨_, _, _, _, _, _, _, _, _, _, _, _, _, _, _, rfl, _⟩ := c; rfl)) (fun hr => d__law_decisions_right T C__law_least_closed C__law_matches C__law_own_takers C_are_together C_cone_of C_reach_of  hr) (fun B W ss o Rt Xt hB c hX => w__law_decisions_right T hB c)
  obtain ⟨fd__law_errors_right, F0__law_errors_right⟩ := c.def_ 41 (d := D__law_errors_right) rfl
  have F__law_errors_right : FunD K "_law_errors_right" "_law_errors_right" (defArgs s__law_errors_right) (defBody s__law_errors_right) (defScope s__law_errors_right) [] [] (He.ga K "_law_errors_right") fd__law_errors_right := F0__law_errors_right
  have C__law_errors_right : Cal P w K mg base 8 "_law_errors_right" ["purse", "plan", "world"] (c__law_errors_right K) := cal_of (t := r__law_errors_right K) (He5.fun_of F__law_errors_right) sc__law_errors_right (He.glo_ok X G (c.fact 41 (f := .glo "_law_errors_right") rfl)) (FunD.bindsN (ps := ["purse", "plan", "world"]) F__law_errors_right fun _ _ _ _ _ _ us hl => match us, hl with | [_, _, _], _ => rfl) (fun ss o Rt Xt c => by first | (obtain ⟨rfl, _⟩ := c; rfl) | (obtain ⟨_, rfl, _⟩ := c; rfl) | (obtain ⟨_, _, rfl, _⟩ := c; rfl) | (obtain ⟨_, _, _, rfl, _⟩ := c; rfl) | (obtain ⟨_, _, _, _, rfl, _⟩ := c; rfl) | (obtain ⟨_, _, _, _, _, rfl, _⟩ := c; rfl) | (obtain ⟨_, _, _, _, _, _, rfl, _⟩ := c; rfl) | (obtain ⟨_, _, _, _, _, _, _, rfl, _⟩ := c; rfl) | (obtain ⟨_, _, _, _, _, _, _, _, rfl, _⟩ := c; rfl) | (obtain ⟨_, _, _, _, _, _, _, _, _, rfl, _⟩ := c; rfl) | (obtain ⟨_, _, _, _, _, _, _, _, _, _, rfl, _⟩ := c; rfl) | (obtain ⟨_, _, _, _, _, _, _, _, _, _, _, rfl, _⟩ := c; rfl) | (obtain ⟨_, _, _, _, _, _, _, _, _, _, _, _, rfl, _⟩ := c; rfl) | (obtain ⟨_, _, _, _, _, _, _, _, _, _, _, _, _, rfl, _⟩ := c; rfl) | (obtain ⟨_, _, _, _, _, _, _, _, _, _, _, _, _, _, rfl, _⟩ := c; rfl) | (obtain ⟨_, _, _, _, _, _, _, _, _, _, _, _, _, _, _, rfl, _⟩ := c; rfl)) (fun hr => d__law_errors_right T C__law_draw C__law_list_told C__law_matches C__law_name_told C__law_reach_told C__law_spread_told  hr) (fun B W ss o Rt Xt hB c hX => w__law_errors_right T hB c)
  obtain ⟨fd__law_great_right, F0__law_great_right⟩ := c.def_ 42 (d := D__law_great_right) rfl
  have F__law_great_right : FunD K "_law_great_right" "_law_great_right" (defArgs s__law_great_right) (defBody s__law_great_right) (defScope s__law_great_right) [] [] (He.ga K "_law_great_right") fd__law_great_right := F0__law_great_right
  have C__law_great_right : Cal P w K mg base 9 "_law_great_right" ["purse"] (c__law_great_right K) := cal_of (t := r__law_great_right K) (He5.fun_of F__law_great_right) sc__law_great_right (He.glo_ok X G (c.fact 42 (f := .glo "_law_great_right") rfl)) (FunD.bindsN (ps := ["purse"]) F__law_great_right fun _ _ _ _ _ _ us hl => match us, hl with | [_], _ => rfl) (fun ss o Rt Xt c => by first | (obtain ⟨rfl, _⟩ := c; rfl) | (obtain ⟨_, rfl, _⟩ := c; rfl) | (obtain ⟨_, _, rfl, _⟩ := c; rfl) | (obtain ⟨_, _, _, rfl, _⟩ := c; rfl) | (obtain ⟨_, _, _, _, rfl, _⟩ := c; rfl) | (obtain ⟨_, _, _, _, _, rfl, _⟩ := c; rfl) | (obtain ⟨_, _, _, _, _, _, rfl, _⟩ := c; rfl) | (obtain ⟨_, _, _, _, _, _, _, rfl, _⟩ := c; rfl) | (obtain ⟨_, _, _, _, _, _, _, _, rfl, _⟩ := c; rfl) | (obtain ⟨_, _, _, _, _, _, _, _, _, rfl, _⟩ := c; rfl) | (obtain ⟨_, _, _, _, _, _, _, _, _, _, rfl, _⟩ := c; rfl) | (obtain ⟨_, _, _, _, _, _, _, _, _, _, _, rfl, _⟩ := c; rfl) | (obtain ⟨_, _, _, _, _, _, _, _, _, _, _, _, rfl, _⟩ := c; rfl) | (obtain ⟨_, _, _, _, _, _, _, _, _, _, _, _, _, rfl, _⟩ := c; rfl) | (obtain ⟨_, _, _, _, _, _, _, _, _, _, _, _, _, _, rfl, _⟩ := c; rfl) | (obtain ⟨_, _, _, _, _, _, _, _, _, _, _, _, _, _, _, rfl, _⟩ := c; rfl)) (fun hr => d__law_great_right T C__law_draw C__law_letters C__law_matches C__law_own_spread C__law_plan C__law_spread_told C__law_words C_judge_knowing C_spread_of  hr) (fun B W ss o Rt Xt hB c hX => w__law_great_right T hB c)
  exact Fun.okX (He5.fun_of FL) sc_law (fun vs H Q E h => by obtain ⟨a, ns, rfl, _⟩ := h; rfl) (fun cdv A outer s H vs Q E hr h => ⟨_, d_law T C__law_decisions_right C__law_draw C__law_errors_right C__law_every_list C__law_great_right C__law_least_closed C__law_matches C__law_open_letter C__law_own_takers C__law_plan C__law_purse C__law_word_world C_judge_knowing C_spread_of C_takers_of  hr, sp_law T h⟩)
def CXE (P : Program) : CXT := fun outer H s E u s' => ∃ w, L2.CX P w outer H s E u s'
theorem fn_cx {P : Program} {w : World} {K : PySem.W.Frag} {mg : Str → Option Value} {base : Heap} {k : Nat} {f : Addr} {fd : FuncData} {ps : List Str} {sp : Sp} (F : FnOk P w K mg base (L2.CX P w) k f fd ps sp) : FnOk P w K mg base (CXE P) k f fd ps sp :=
  ⟨F.len, fun A outer s H args us vs Q E hr he hb hv hs => codeAny_mono (F.run A outer s H args us vs Q E hr he hb hv hs) fun r s' hq => by
    cases r with
    | error u => exact ⟨w, hq⟩
    | ok fl => cases fl <;> exact hq⟩
theorem facts {P : Program} {w : World} {K : PySem.W.Frag} {h : Heap} {mg : Str → Option Value} {f : Addr} (X : K.In h) (G : h.Ns mainGlobals mg) (hfa : mg ("law" : Str) = some (.ref f)) (c : He.SaysD fa fn K) (e : ex K = true) :
    ∃ fd : FuncData, (∀ (s : Shared) (v : Value), BindsTo s fd ⟨[v], []⟩ [("script", v)]) ∧ ∀ base : Heap, K.In base → base.Ns mainGlobals mg → FnOk P w K mg base (CXE P) 10 f fd ["script"] (spLaw K) := by
  obtain ⟨fd, F⟩ := c.def_ 43 (d := D_law) rfl
  have e0 := hfa.symm.trans (He.glo_ok X G (c.fact 43 (f := .glo "law") rfl))
  cases e0
  have b := FunD.bindsA (ps := ["script"]) F fun _ _ _ _ _ _ us hl => match us, hl with | [_], _ => rfl
  exact ⟨fd, fun s v => b s [v] rfl, fun base KX GX => fn_cx (law_ok KX GX c e F)⟩
end K07
end AB
set_option maxHeartbeats 0
open PySem PySem.W PySem.Calls PyProof.Rows
theorem PySem.Challenge.cw_forcedapart_k07_word_of_a_change_that_sp_holds : PySem.Challenge.rw_forcedapart_k07_word_of_a_change_that_sp.Holds := by
  w_on; o_law
  refine HandSHeadRun.head_any (r := OpenLaw.row PySem.Challenge.rw_forcedapart_k07_word_of_a_change_that_sp) (q := view (OpenLaw.row PySem.Challenge.rw_forcedapart_k07_word_of_a_change_that_sp).prog [72]) (H := AB.K07.hk) (ob := AB.K07.ob) (M := 4000) (loose := AB.K07.names) (d := HandSHeadRun.topDef (OpenLaw.row PySem.Challenge.rw_forcedapart_k07_word_of_a_change_that_sp).prog 72) (kwd := []) AB.K07.ob_eq
    (by kernel_rfl) (fun s => by kernel_rfl) AB.K07.run (by kernel_rfl) (by kernel_rfl) (by kernel_rfl) (by rfl) (by first | assumption | decide +kernel) (by decide +kernel) ⟨rfl, rfl, rfl, rfl, rfl, by decide +kernel⟩ ?hw ?hc
  case hw => w_witness2
  case hc =>
    refine L2.walk_ofE (l := PySem.Challenge.rw_forcedapart_k07_word_of_a_change_that_sp) (n := 63) (k := 10) (x := "script") (CX := AB.K07.CXE (PySem.Challenge.rw_forcedapart_k07_word_of_a_change_that_sp).prog) rfl (by decide) (by kernel_rfl) ⟨rfl, by decide, by decide⟩ ?F (fun _ _ _ _ z => by
      obtain ⟨w, z⟩ := z
      obtain ⟨_, _, _, _, _, _, _, _, _, _, _, _, z⟩ := z
      exact z.elim)
    intro w mg fa h Y G hmg0
    obtain ⟨K, KX, c, ce⟩ := Y
    have hmg : mg ("law" : PySem.Str) = some (.ref fa) := by
      have e : (HandSHeadRun.topDef (OpenLaw.row PySem.Challenge.rw_forcedapart_k07_word_of_a_change_that_sp).prog 72).name = ("law" : PySem.Str) := by kernel_rfl
      rw [← e]
      exact hmg0
    obtain ⟨fd, hb, hF⟩ := AB.K07.facts (P := (PySem.Challenge.rw_forcedapart_k07_word_of_a_change_that_sp).prog) (w := w) KX G hmg c ce
    exact ⟨K, fd, AB.K07.spLaw K, KX, hb, fun H a ns hl _ hS => ⟨a, ns, rfl, by omega, hS, fun _ => rfl⟩, hF⟩
