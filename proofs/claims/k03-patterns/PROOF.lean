import PyProof.Rows.All
import Wide.All
import OpenK.AllK
import Wide.FinOn
import HandS.ForMost
import HandS.ForExc
import HandS.TryMany
import HandS.TryOnly
import HandS.ExcField
import HandS.ExcInit
import HandS.Deep
import HandS.NoneIn
import HandS.Style
import HandS.Flow
import HandS.Wide
import HandS.WideMore
import HandS.WideBits
import HandS.IsInst
import HandS.SortInts
import KE.DataEq
import HandS.Flt
import HandS.HeadHook1
import HandS.HeadHook2
import HandS.HeadHook4
import HandS.HeadWalk
import HandS.Codes
import HandS.WordsExc
import HandS.Base
import HandS.Call
import HandS.Ends
import HandS.More
import HandS.Words
import HandS.Defaults
import HandS.Head0
import HandS.Head1
import HandS.Head2
import HandS.HeadEnd
import HandS.HeadNt
import PySem.Challenge.RW_forcedapart_k03_patterns_by_their_plain
set_option Elab.async false
set_option linter.all false
set_option maxRecDepth 100000
set_option maxHeartbeats 4000000
set_option autoImplicit false
/-! An abstract layer over the hand layer: what a def does, said of plain data and of numbered own objects; no heap in sight. -/
namespace AB
open PySem L2
abbrev St := L2.St

/-! ### data -/
inductive D where
  | non | bl (b : Bool) | int (i : Int) | str (x : Str) | tup (l : List D) | lst (l : List D)
  | dic (l : List (Key × D)) | ins (C : Addr) (l : List (Str × D)) | exc (a dd : Addr) (l : List (Str × D)) | raw (v : V)
mutual
inductive Rep (F : Hp) : V → D → Prop
  | non : Rep F .non .non
  | bl (b : Bool) : Rep F (.bl b) (.bl b)
  | int (i : Int) : Rep F (.int i) (.int i)
  | str (x : Str) : Rep F (.str x) (.str x)
  | raw (v : V) : Rep F v (.raw v)
  | tup {a : Addr} {xs : List V} {ds : List D} : F a = some (.tup xs) → RepL F xs ds → Rep F (.ref a) (.tup ds)
  | lst {a : Addr} {xs : List V} {ds : List D} : F a = some (.lst xs) → RepL F xs ds → Rep F (.ref a) (.lst ds)
  | dic {a : Addr} {ks : List (Key × V)} {ds : List (Key × D)} : F a = some (.dK ks) → RepK F ks ds → Rep F (.ref a) (.dic ds)
  | ins {a C dx : Addr} {fs : List (Str × V)} {ds : List (Str × D)} : F a = some (.ins C dx fs) → RepF F fs ds → Rep F (.ref a) (.ins C ds)
  | exc {a dd : Addr} {fs : List (Str × V)} {ds : List (Str × D)} : F dd = some (.xd fs) → RepF F fs ds → Rep F (.ref a) (.exc a dd ds)
inductive RepL (F : Hp) : List V → List D → Prop
  | nil : RepL F [] []
  | cons {v : V} {vs : List V} {d : D} {ds : List D} : Rep F v d → RepL F vs ds → RepL F (v :: vs) (d :: ds)
inductive RepK (F : Hp) : List (Key × V) → List (Key × D) → Prop
  | nil : RepK F [] []
  | cons {k : Key} {v : V} {vs : List (Key × V)} {d : D} {ds : List (Key × D)} : Rep F v d → RepK F vs ds → RepK F ((k, v) :: vs) ((k, d) :: ds)
inductive RepF (F : Hp) : List (Str × V) → List (Str × D) → Prop
  | nil : RepF F [] []
  | cons {k : Str} {v : V} {vs : List (Str × V)} {d : D} {ds : List (Str × D)} : Rep F v d → RepF F vs ds → RepF F ((k, v) :: vs) ((k, d) :: ds)
end
def Ex (H H' : Hp) : Prop := ∀ a o, H a = some o → H' a = some o
theorem Ex.refl (H : Hp) : Ex H H := fun _ _ h => h
theorem Ex.trans {H H1 H2 : Hp} (a : Ex H H1) (b : Ex H1 H2) : Ex H H2 := fun x o h => b x o (a x o h)
theorem Ex.new {H : Hp} {p : Addr} {o : HO} (h : H p = none) : Ex H (upd H p o) := fun a u e => by
  rw [upd_ne (ne_of_none e h)]
  exact e
mutual
theorem Rep.mono {F F' : Hp} (e : Ex F F') : ∀ {v : V} {d : D}, Rep F v d → Rep F' v d
  | _, _, .non => .non
  | _, _, .bl b => .bl b
  | _, _, .int i => .int i
  | _, _, .str x => .str x
  | _, _, .raw v => .raw v
  | _, _, .tup h r => .tup (e _ _ h) (RepL.mono e r)
  | _, _, .lst h r => .lst (e _ _ h) (RepL.mono e r)
  | _, _, .dic h r => .dic (e _ _ h) (RepK.mono e r)
  | _, _, .ins h r => .ins (e _ _ h) (RepF.mono e r)
  | _, _, .exc h r => .exc (e _ _ h) (RepF.mono e r)
theorem RepL.mono {F F' : Hp} (e : Ex F F') : ∀ {vs : List V} {ds : List D}, RepL F vs ds → RepL F' vs ds
  | _, _, .nil => .nil
  | _, _, .cons h r => .cons (Rep.mono e h) (RepL.mono e r)
theorem RepK.mono {F F' : Hp} (e : Ex F F') : ∀ {vs : List (Key × V)} {ds : List (Key × D)}, RepK F vs ds → RepK F' vs ds
  | _, _, .nil => .nil
  | _, _, .cons h r => .cons (Rep.mono e h) (RepK.mono e r)
theorem RepF.mono {F F' : Hp} (e : Ex F F') : ∀ {vs : List (Str × V)} {ds : List (Str × D)}, RepF F vs ds → RepF F' vs ds
  | _, _, .nil => .nil
  | _, _, .cons h r => .cons (Rep.mono e h) (RepF.mono e r)
end
theorem RepL.len {F : Hp} {vs : List V} {ds : List D} : RepL F vs ds → vs.length = ds.length
  | .nil => rfl
  | .cons _ r => congrArg (· + 1) (RepL.len r)
theorem RepL.get {F : Hp} : ∀ {vs : List V} {ds : List D} {i : Nat} {v : V}, RepL F vs ds → vs[i]? = some v → ∃ d, ds[i]? = some d ∧ Rep F v d
  | _, _, i, _, .nil, e => by simp at e
  | _, _, 0, _, .cons h _, e => by simp at e; subst e; exact ⟨_, rfl, h⟩
  | _, _, i + 1, _, .cons _ r, e => by
    have e' := e
    simp only [List.getElem?_cons_succ] at e' ⊢
    exact RepL.get r e'
theorem RepL.got {F : Hp} : ∀ {vs : List V} {ds : List D} {i : Nat} {d : D}, RepL F vs ds → ds[i]? = some d → ∃ v, vs[i]? = some v ∧ Rep F v d
  | _, _, i, _, .nil, e => by simp at e
  | _, _, 0, _, .cons h _, e => by simp at e; subst e; exact ⟨_, rfl, h⟩
  | _, _, i + 1, _, .cons _ r, e => by
    have e' := e
    simp only [List.getElem?_cons_succ] at e' ⊢
    exact RepL.got r e'
theorem RepL.app {F : Hp} {vs ws : List V} {ds es : List D} : RepL F vs ds → RepL F ws es → RepL F (vs ++ ws) (ds ++ es)
  | .nil, r => r
  | .cons h t, r => .cons h (RepL.app t r)
theorem RepL.take {F : Hp} : ∀ {vs : List V} {ds : List D} (n : Nat), RepL F vs ds → RepL F (vs.take n) (ds.take n)
  | _, _, 0, _ => by simpa using RepL.nil
  | _, _, n + 1, .nil => .nil
  | _, _, n + 1, .cons h r => .cons h (RepL.take n r)
theorem RepL.drop {F : Hp} : ∀ {vs : List V} {ds : List D} (n : Nat), RepL F vs ds → RepL F (vs.drop n) (ds.drop n)
  | _, _, 0, r => r
  | _, _, n + 1, .nil => .nil
  | _, _, n + 1, .cons h r => RepL.drop n r
/-! ### to the model's own data -/
mutual
def D.py : D → PyData
  | .non => .none
  | .bl b => .bool b
  | .int i => .int i
  | .str x => .str x
  | .tup l => .tuple (D.pyL l)
  | .lst l => .list (D.pyL l)
  | _ => .dict []
def D.pyL : List D → List PyData
  | [] => []
  | d :: r => D.py d :: D.pyL r
end
mutual
theorem Rep.dp {K : PySem.W.Frag} {F : Hp} : ∀ {v : V} {d : D}, Rep F v d → d.py.plain = true → Dp K F v d.py
  | _, _, .non, _ => .non
  | _, _, .bl b, _ => .bl b
  | _, _, .int i, _ => .int i
  | _, _, .str x, _ => .str x
  | _, _, .raw v, h => by simp [D.py, PyData.plain] at h
  | _, _, .tup h r, p => by
    rw [D.py] at p ⊢
    exact .tup (SqT.of h) (RepL.dp r (by simpa [PyData.plain] using p))
  | _, _, .lst h r, p => by
    rw [D.py] at p ⊢
    exact .lst (SqL.of h) (RepL.dp r (by simpa [PyData.plain] using p))
  | _, _, .dic h r, p => by simp [D.py, PyData.plain] at p
  | _, _, .ins h r, p => by simp [D.py, PyData.plain] at p
  | _, _, .exc h r, p => by simp [D.py, PyData.plain] at p
theorem RepL.dp {K : PySem.W.Frag} {F : Hp} : ∀ {vs : List V} {ds : List D}, RepL F vs ds → PyData.plainAll (D.pyL ds) = true → DpAll K F vs (D.pyL ds)
  | _, _, .nil, _ => by rw [D.pyL]; exact .nil
  | _, _, .cons h r, p => by
    rw [D.pyL, PyData.plainAll, Bool.and_eq_true] at p
    rw [D.pyL]
    exact .cons (Rep.dp h p.1) (RepL.dp r p.2)
end
/-! ### own objects, numbered -/
inductive Sl where
  | da (d : D) | ow (j : Nat)
inductive OO where
  | gone | lst (l : List Sl) | dic (l : List (Key × Sl)) | ins (C : Addr) (l : List (Str × Sl))
abbrev R := List (Option Sl)
abbrev O := List OO
def RepS (F : Hp) (θ : List Addr) (v : V) : Sl → Prop
  | .da d => Rep F v d
  | .ow j => ∃ a, v = .ref a ∧ θ[j]? = some a
theorem RepS.dat {F : Hp} {θ : List Addr} {v : V} {d : D} (h : Rep F v d) : RepS F θ v (.da d) := h
theorem RepS.own {F : Hp} {θ : List Addr} {a : Addr} {j : Nat} (h : θ[j]? = some a) : RepS F θ (.ref a) (.ow j) := ⟨a, rfl, h⟩
abbrev RepSL (F : Hp) (θ : List Addr) : List V → List Sl → Prop := Paired (RepS F θ)
abbrev RepSK (F : Hp) (θ : List Addr) : List (Key × V) → List (Key × Sl) → Prop := Paired fun p q => p.1 = q.1 ∧ RepS F θ p.2 q.2
abbrev RepSF (F : Hp) (θ : List Addr) : List (Str × V) → List (Str × Sl) → Prop := Paired fun p q => p.1 = q.1 ∧ RepS F θ p.2 q.2
def RepO (F H : Hp) (θ : List Addr) (a : Addr) : OO → Prop
  | .gone => ∃ o, H a = some o
  | .lst l => ∃ xs, H a = some (.lst xs) ∧ RepSL F θ xs l
  | .dic l => ∃ ks, H a = some (.dK ks) ∧ RepSK F θ ks l
  | .ins C l => ∃ dx fs, H a = some (.ins C dx fs) ∧ RepSF F θ fs l
theorem Paired.mono {α β : Type} {P Q : α → β → Prop} (h : ∀ a b, P a b → Q a b) : ∀ {xs : List α} {ys : List β}, Paired P xs ys → Paired Q xs ys
  | _, _, .nil => .nil
  | _, _, .cons r t => .cons (h _ _ r) (Paired.mono h t)
theorem RepS.mono {F F' : Hp} {θ θ' : List Addr} {v : V} {s : Sl} (e : Ex F F') (p : ∃ t, θ' = θ ++ t) (h : RepS F θ v s) : RepS F' θ' v s := by
  cases s with
  | da d => exact Rep.mono e h
  | ow j =>
    obtain ⟨a, rfl, ha⟩ := h
    obtain ⟨t, rfl⟩ := p
    exact ⟨a, rfl, by rw [List.getElem?_append_left (List.getElem?_eq_some_iff.mp ha).1]; exact ha⟩
theorem RepSL.mono {F F' : Hp} {θ θ' : List Addr} {v : List V} {s : List Sl} (e : Ex F F') (p : ∃ t, θ' = θ ++ t) (h : RepSL F θ v s) : RepSL F' θ' v s := Paired.mono (fun _ _ r => RepS.mono e p r) h
theorem RepO.mono {F F' H : Hp} {θ θ' : List Addr} {a : Addr} {o : OO} (e : Ex F F') (p : ∃ t, θ' = θ ++ t) (h : RepO F H θ a o) : RepO F' H θ' a o := by
  cases o with
  | gone => exact h
  | lst l => obtain ⟨xs, h1, h2⟩ := h; exact ⟨xs, h1, h2.mono e p⟩
  | dic l => obtain ⟨xs, h1, h2⟩ := h; exact ⟨xs, h1, Paired.mono (fun _ _ r => ⟨r.1, r.2.mono e p⟩) h2⟩
  | ins C l => obtain ⟨dx, xs, h1, h2⟩ := h; exact ⟨dx, xs, h1, Paired.mono (fun _ _ r => ⟨r.1, r.2.mono e p⟩) h2⟩
theorem RepO.at {F H H' : Hp} {θ : List Addr} {a : Addr} {o : OO} (e : ∀ u, H a = some u → H' a = some u) (h : RepO F H θ a o) : RepO F H' θ a o := by
  cases o with
  | gone => obtain ⟨u, h⟩ := h; exact ⟨u, e u h⟩
  | lst l => obtain ⟨xs, h1, h2⟩ := h; exact ⟨xs, e _ h1, h2⟩
  | dic l => obtain ⟨xs, h1, h2⟩ := h; exact ⟨xs, e _ h1, h2⟩
  | ins C l => obtain ⟨dx, xs, h1, h2⟩ := h; exact ⟨dx, xs, e _ h1, h2⟩
theorem RepO.some {F H : Hp} {θ : List Addr} {a : Addr} {o : OO} (h : RepO F H θ a o) : ∃ u, H a = some u := by
  cases o with
  | gone => exact h
  | lst l => obtain ⟨xs, h1, h2⟩ := h; exact ⟨_, h1⟩
  | dic l => obtain ⟨xs, h1, h2⟩ := h; exact ⟨_, h1⟩
  | ins C l => obtain ⟨dx, xs, h1, h2⟩ := h; exact ⟨_, h1⟩
/-- from one state to a later one -/
structure Tw (F H : Hp) (θ : List Addr) (F' H' : Hp) (θ' : List Addr) : Prop where
  ff : Ex F F'
  pre : ∃ t, θ' = θ ++ t
  kp : ∀ a o, H a = some o → a ∉ θ → H' a = some o
  th : ∀ a, H' a = none → H a = none
  nt : ∀ a, a ∈ θ' → a ∈ θ ∨ H a = none
  nf : ∀ a o, a ∉ θ → F a = none → H a = some o → F' a = none
/-- .. and nothing that was known comes to stay -/
structure Tr (F H : Hp) (θ : List Addr) (F' H' : Hp) (θ' : List Addr) : Prop where
  ff : Ex F F'
  pre : ∃ t, θ' = θ ++ t
  kp : ∀ a o, H a = some o → a ∉ θ → H' a = some o
  th : ∀ a, H' a = none → H a = none
  nw : ∀ a o, F' a = some o → (∃ u, F a = some u) ∨ H a = none
  nt : ∀ a, a ∈ θ' → a ∈ θ ∨ H a = none
theorem Tr.w {F H : Hp} {θ : List Addr} {F' H' : Hp} {θ' : List Addr} (x : Tr F H θ F' H' θ') : Tw F H θ F' H' θ' := ⟨x.ff, x.pre, x.kp, x.th, x.nt, fun a o _ h1 h2 => by
  cases q : F' a with
  | none => rfl
  | some w =>
    rcases x.nw a w q with ⟨u, z⟩ | z
    · rw [h1] at z; cases z
    · rw [h2] at z; cases z⟩
theorem Tr.refl (F H : Hp) (θ : List Addr) : Tr F H θ F H θ :=
  ⟨Ex.refl F, ⟨[], by simp⟩, fun _ _ h _ => h, fun _ h => h, fun _ o h => .inl ⟨o, h⟩, fun _ h => .inl h⟩
theorem Tw.refl (F H : Hp) (θ : List Addr) : Tw F H θ F H θ := (Tr.refl F H θ).w
theorem Tw.trans {F H F1 H1 F2 H2 : Hp} {θ θ1 θ2 : List Addr} (x : Tw F H θ F1 H1 θ1) (y : Tw F1 H1 θ1 F2 H2 θ2) : Tw F H θ F2 H2 θ2 where
  ff := x.ff.trans y.ff
  pre := by
    obtain ⟨t, rfl⟩ := x.pre
    obtain ⟨u, rfl⟩ := y.pre
    exact ⟨t ++ u, by rw [List.append_assoc]⟩
  kp := fun a o h n => y.kp a o (x.kp a o h n) fun z => by
    rcases x.nt a z with q | q
    · exact n q
    · rw [q] at h; cases h
  th := fun a h => x.th a (y.th a h)
  nt := fun a h => by
    rcases y.nt a h with q | q
    · exact x.nt a q
    · exact .inr (x.th a q)
  nf := fun a o h h1 h2 => y.nf a o (fun z => by
    rcases x.nt a z with q | q
    · exact h q
    · rw [h2] at q; cases q) (x.nf a o h h1 h2) (x.kp a o h2 h)
theorem Tr.trans {F H F1 H1 F2 H2 : Hp} {θ θ1 θ2 : List Addr} (x : Tr F H θ F1 H1 θ1) (y : Tr F1 H1 θ1 F2 H2 θ2) : Tr F H θ F2 H2 θ2 :=
  let z := x.w.trans y.w
  ⟨z.ff, z.pre, z.kp, z.th, fun a o h => by
    rcases y.nw a o h with ⟨u, q⟩ | q
    · exact x.nw a u q
    · exact .inr (x.th a q), z.nt⟩
structure Base where
  F : Hp
  H : Hp
  θ : List Addr
structure Sls (F : Hp) (θ : List Addr) (σ : St) (ρ : R) : Prop where
  len : σ.length = ρ.length
  at_ : ∀ (i : Nat) (s : Sl), ρ[i]? = some (some s) → ∃ v, σ[i]? = some (some v) ∧ RepS F θ v s
/-- F: what stays; H: all that is tracked; θ: the own objects' places; σ: the slots; ρ, o: the same as data -/
structure Ok (B : Base) (F H : Hp) (θ : List Addr) (σ : St) (ρ : R) (o : O) : Prop where
  tr : Tr B.F B.H B.θ F H θ
  fh : Ex F H
  len : θ.length = o.length
  nd : θ.Nodup
  fr : ∀ (j : Nat) a u, θ[j]? = some a → o[j]? = some u → u ≠ .gone → F a = none
  ob : ∀ (j : Nat) a u, θ[j]? = some a → o[j]? = some u → RepO F H θ a u
  sl : Sls F θ σ ρ
theorem Sls.mono {F F' : Hp} {θ θ' : List Addr} {σ : St} {ρ : R} (e : Ex F F') (p : ∃ t, θ' = θ ++ t) (h : Sls F θ σ ρ) : Sls F' θ' σ ρ :=
  ⟨h.len, fun i s q => by
    obtain ⟨v, h1, h2⟩ := h.at_ i s q
    exact ⟨v, h1, h2.mono e p⟩⟩
theorem Sls.set {F : Hp} {θ : List Addr} {σ : St} {ρ : R} {i : Nat} {v : V} {s : Sl} (h : Sls F θ σ ρ) (r : RepS F θ v s) : Sls F θ (σ.set i (some v)) (ρ.set i (some s)) :=
  ⟨by simp [h.len], fun j u q => by
    by_cases e : i = j
    · subst e
      have hl : i < ρ.length := by
        have := (List.getElem?_eq_some_iff.mp q).1
        simpa using this
      rw [List.getElem?_set_self hl] at q
      have q' : s = u := by simpa using q
      subst q'
      exact ⟨v, by rw [List.getElem?_set_self (by rw [h.len]; exact hl)], r⟩
    · rw [List.getElem?_set_ne e] at q ⊢
      exact h.at_ j u q⟩
theorem Sls.none {F : Hp} {θ : List Addr} {σ : St} {ρ : R} {i : Nat} (h : Sls F θ σ ρ) (x : Option V) : Sls F θ (σ.set i x) (ρ.set i none) :=
  ⟨by simp [h.len], fun j u q => by
    by_cases e : i = j
    · subst e
      have hl : i < ρ.length := by
        have := (List.getElem?_eq_some_iff.mp q).1
        simpa using this
      rw [List.getElem?_set_self hl] at q
      cases q
    · rw [List.getElem?_set_ne e] at q ⊢
      exact h.at_ j u q⟩
theorem Ok.own {B : Base} {F H : Hp} {θ : List Addr} {σ : St} {ρ : R} {o : O} (k : Ok B F H θ σ ρ o) {j : Nat} {u : OO} (h : o[j]? = some u) : ∃ a, θ[j]? = some a ∧ RepO F H θ a u := by
  have hl : j < θ.length := by rw [k.len]; exact (List.getElem?_eq_some_iff.mp h).1
  exact ⟨θ[j], List.getElem?_eq_getElem hl, k.ob j _ u (List.getElem?_eq_getElem hl) h⟩
theorem Ok.mem {B : Base} {F H : Hp} {θ : List Addr} {σ : St} {ρ : R} {o : O} (k : Ok B F H θ σ ρ o) {a : Addr} (h : a ∈ θ) : ∃ u, H a = some u := by
  obtain ⟨j, hj, e⟩ := List.getElem_of_mem h
  have hj2 : j < o.length := by rw [← k.len]; exact hj
  have ho : o[j]? = some (o[j]) := List.getElem?_eq_getElem hj2
  exact (k.ob j a _ (by rw [List.getElem?_eq_getElem hj, e]) ho).some
/-- a later state of another kind, its slots kept -/
theorem Ok.slots {B : Base} {F H : Hp} {θ : List Addr} {σ σ' : St} {ρ ρ' : R} {o : O} (k : Ok B F H θ σ ρ o) (s : Sls F θ σ' ρ') : Ok B F H θ σ' ρ' o :=
  ⟨k.tr, k.fh, k.len, k.nd, k.fr, k.ob, s⟩
/-- a new object that stays -/
theorem Ok.put {B : Base} {F H : Hp} {θ : List Addr} {σ : St} {ρ : R} {o : O} {p : Addr} {u : HO} (k : Ok B F H θ σ ρ o) (n : H p = none) :
    Tr F H θ (upd F p u) (upd H p u) θ ∧ Ok B (upd F p u) (upd H p u) θ σ ρ o := by
  have nf : F p = none := by
    cases q : F p with
    | none => rfl
    | some w => have := k.fh p w q; rw [n] at this; cases this
  have np : p ∉ θ := fun h => by
    obtain ⟨w, hw⟩ := k.mem h
    rw [n] at hw; cases hw
  have t : Tr F H θ (upd F p u) (upd H p u) θ := {
    ff := Ex.new nf
    pre := ⟨[], by simp⟩
    kp := fun a w h _ => Ex.new n a w h
    th := fun a h => by
      by_cases e : a = p
      · subst e; exact n
      · rwa [upd_ne e] at h
    nw := fun a w h => by
      by_cases e : a = p
      · subst e; exact .inr n
      · rw [upd_ne e] at h; exact .inl ⟨w, h⟩
    nt := fun a h => .inl h }
  refine ⟨t, k.tr.trans t, fun a w h => ?_, k.len, k.nd, fun j a w h1 h2 h3 => ?_, fun j a w h1 h2 => ?_, k.sl.mono t.ff t.pre⟩
  · by_cases e : a = p
    · subst e; rw [upd_same] at h ⊢; exact h
    · rw [upd_ne e] at h ⊢; exact k.fh a w h
  · have e : a ≠ p := fun e => np (e ▸ List.mem_of_getElem? h1)
    rw [upd_ne e]
    exact k.fr j a w h1 h2 h3
  · exact ((k.ob j a w h1 h2).mono t.ff t.pre).at fun w' h => Ex.new n a w' h
/-- a new own object -/
theorem Ok.lay {B : Base} {F H : Hp} {θ : List Addr} {σ : St} {ρ : R} {o : O} {p : Addr} {u : HO} {w : OO} (k : Ok B F H θ σ ρ o) (n : H p = none) (r : RepO F (upd H p u) (θ ++ [p]) p w) :
    Tr F H θ F (upd H p u) (θ ++ [p]) ∧ Ok B F (upd H p u) (θ ++ [p]) σ ρ (o ++ [w]) := by
  have nf : F p = none := by
    cases q : F p with
    | none => rfl
    | some w => have := k.fh p w q; rw [n] at this; cases this
  have np : p ∉ θ := fun h => by
    obtain ⟨w, hw⟩ := k.mem h
    rw [n] at hw; cases hw
  have t : Tr F H θ F (upd H p u) (θ ++ [p]) := {
    ff := Ex.refl F
    pre := ⟨[p], rfl⟩
    kp := fun a w h _ => Ex.new n a w h
    th := fun a h => by
      by_cases e : a = p
      · subst e; exact n
      · rwa [upd_ne e] at h
    nw := fun a w h => .inl ⟨w, h⟩
    nt := fun a h => by
      rcases List.mem_append.mp h with h | h
      · exact .inl h
      · have e : a = p := by simpa using h
        subst e; exact .inr n }
  have cut : ∀ (j : Nat) a w', (θ ++ [p])[j]? = some a → (o ++ [w])[j]? = some w' → (θ[j]? = some a ∧ o[j]? = some w') ∨ (a = p ∧ w' = w) := fun j a w' h1 h2 => by
    by_cases hj : j < θ.length
    · rw [List.getElem?_append_left hj] at h1
      rw [List.getElem?_append_left (by rw [← k.len]; exact hj)] at h2
      exact .inl ⟨h1, h2⟩
    · rw [List.getElem?_append_right (by omega)] at h1
      rw [List.getElem?_append_right (by rw [← k.len]; omega), ← k.len] at h2
      cases e : j - θ.length with
      | zero =>
        rw [e] at h1 h2
        simp at h1 h2
        exact .inr ⟨h1.symm, h2.symm⟩
      | succ m => rw [e] at h1; simp at h1
  refine ⟨t, k.tr.trans t, fun a w h => Ex.new n a w (k.fh a w h), by simp [k.len], ?_, fun j a w' h1 h2 h3 => ?_, fun j a w' h1 h2 => ?_, k.sl.mono t.ff t.pre⟩
  · rw [List.nodup_append]
    exact ⟨k.nd, by simp, fun a ha b hb e => by
      have e' : b = p := by simpa using hb
      rw [e, e'] at ha
      exact np ha⟩
  · rcases cut j a w' h1 h2 with ⟨h1, h2⟩ | ⟨rfl, rfl⟩
    · exact k.fr j a w' h1 h2 h3
    · exact nf
  · rcases cut j a w' h1 h2 with ⟨h1, h2⟩ | ⟨rfl, rfl⟩
    · exact ((k.ob j a w' h1 h2).mono t.ff t.pre).at fun w' h => Ex.new n a w' h
    · exact r
/-- an own object is changed -/
theorem Ok.chg {B : Base} {F H : Hp} {θ : List Addr} {σ : St} {ρ : R} {o : O} {j : Nat} {p : Addr} {u : HO} {w w0 : OO} (k : Ok B F H θ σ ρ o) (hj : θ[j]? = some p) (ho : o[j]? = some w0) (hg : w0 ≠ .gone)
    (r : RepO F (upd H p u) θ p w) (hw : w ≠ .gone) : Tr F H θ F (upd H p u) θ ∧ Ok B F (upd H p u) θ σ ρ (o.set j w) := by
  have nf : F p = none := k.fr j p w0 hj ho hg
  obtain ⟨old, hold⟩ := (k.ob j p w0 hj ho).some
  have t : Tr F H θ F (upd H p u) θ := {
    ff := Ex.refl F
    pre := ⟨[], by simp⟩
    kp := fun a v h n => by
      have ne : a ≠ p := fun e => n (by rw [e]; exact List.mem_of_getElem? hj)
      rw [upd_ne ne]
      exact h
    th := fun a h => by
      by_cases e : a = p
      · subst e; rw [upd_same] at h; cases h
      · rwa [upd_ne e] at h
    nw := fun a v h => .inl ⟨v, h⟩
    nt := fun a h => .inl h }
  have jl : j < o.length := (List.getElem?_eq_some_iff.mp ho).1
  have ne : ∀ (i : Nat) a, i ≠ j → θ[i]? = some a → a ≠ p := fun i a hi h e => hi (by
    obtain ⟨h1, e1⟩ := List.getElem?_eq_some_iff.mp h
    obtain ⟨h2, e2⟩ := List.getElem?_eq_some_iff.mp hj
    exact (List.getElem_inj k.nd).mp (e1.trans (e.trans e2.symm)))
  refine ⟨t, k.tr.trans t, fun a v h => ?_, by simp [k.len], k.nd, fun i a v h1 h2 h3 => ?_, fun i a v h1 h2 => ?_, k.sl⟩
  · rw [upd_ne (fun e => by rw [e, nf] at h; cases h)]
    exact k.fh a v h
  · by_cases e : i = j
    · subst e
      rw [hj] at h1; cases h1
      exact nf
    · rw [List.getElem?_set_ne (Ne.symm e)] at h2
      exact k.fr i a v h1 h2 h3
  · by_cases e : i = j
    · subst e
      rw [hj] at h1; cases h1
      rw [List.getElem?_set_self jl] at h2
      cases h2
      exact r
    · rw [List.getElem?_set_ne (Ne.symm e)] at h2
      exact (k.ob i a v h1 h2).at fun v' h => by rw [upd_ne (ne i a e h1)]; exact h
end AB

set_option Elab.async false
set_option linter.all false
set_option maxRecDepth 100000
set_option maxHeartbeats 4000000
set_option autoImplicit false
namespace AB
open PySem L2
/-! ### judgements over abstract states -/
def AE (B : Base) (te : TE) (ρ : R) (o : O) (P : Sl → O → Prop) : Prop :=
  ∀ F H θ σ, Ok B F H θ σ ρ o → ∀ Q : VK, (∀ v s F' H' θ' o', Tw F H θ F' H' θ' → Ok B F' H' θ' σ ρ o' → RepS F' θ' v s → P s o' → Q v H') → te σ H Q
def AT (B : Base) (t : TT) (ρ : R) (o : O) (P : Bool → O → Prop) : Prop :=
  ∀ F H θ σ, Ok B F H θ σ ρ o → ∀ Q : Bool → Hp → Prop, (∀ b F' H' θ' o', Tw F H θ F' H' θ' → Ok B F' H' θ' σ ρ o' → P b o' → Q b H') → t σ H Q
def AA (B : Base) (ta : TA) (ρ : R) (o : O) (P : List Sl → O → Prop) : Prop :=
  ∀ F H θ σ, Ok B F H θ σ ρ o → ∀ Q : List V → Hp → Prop, (∀ vs ss F' H' θ' o', Tw F H θ F' H' θ' → Ok B F' H' θ' σ ρ o' → RepSL F' θ' vs ss → P ss o' → Q vs H') → ta σ H Q
/-- by values: two places, one, many -/
def A2 (B : Base) (r : R2) (x y : Sl) (o : O) (P : Sl → O → Prop) : Prop :=
  ∀ F H θ σ ρ v u, Ok B F H θ σ ρ o → RepS F θ v x → RepS F θ u y → ∀ Q : VK, (∀ w s F' H' θ' o', Tw F H θ F' H' θ' → Ok B F' H' θ' σ ρ o' → RepS F' θ' w s → P s o' → Q w H') → r v u H Q
def A1 (B : Base) (r : V → Hp → VK → Prop) (x : Sl) (o : O) (P : Sl → O → Prop) : Prop :=
  ∀ F H θ σ ρ v, Ok B F H θ σ ρ o → RepS F θ v x → ∀ Q : VK, (∀ w s F' H' θ' o', Tw F H θ F' H' θ' → Ok B F' H' θ' σ ρ o' → RepS F' θ' w s → P s o' → Q w H') → r v H Q
def AN (B : Base) (r : List V → Hp → VK → Prop) (xs : List Sl) (o : O) (P : Sl → O → Prop) : Prop :=
  ∀ F H θ σ ρ vs, Ok B F H θ σ ρ o → RepSL F θ vs xs → ∀ Q : VK, (∀ w s F' H' θ' o', Tw F H θ F' H' θ' → Ok B F' H' θ' σ ρ o' → RepS F' θ' w s → P s o' → Q w H') → r vs H Q
def AM (B : Base) (r : V → List V → Hp → VK → Prop) (x : Sl) (xs : List Sl) (o : O) (P : Sl → O → Prop) : Prop :=
  ∀ F H θ σ ρ v vs, Ok B F H θ σ ρ o → RepS F θ v x → RepSL F θ vs xs → ∀ Q : VK, (∀ w s F' H' θ' o', Tw F H θ F' H' θ' → Ok B F' H' θ' σ ρ o' → RepS F' θ' w s → P s o' → Q w H') → r v vs H Q
structure AD where
  nx : R → O → Prop
  rt : Sl → O → Prop
  bk : R → O → Prop := fun _ _ => False
  ct : R → O → Prop := fun _ _ => False
structure Sat (B : Base) (F H : Hp) (θ : List Addr) (D : AD) (E : Ends) : Prop where
  nx : ∀ F' H' θ' σ ρ o, Tw F H θ F' H' θ' → Ok B F' H' θ' σ ρ o → D.nx ρ o → E.nx σ H'
  rt : ∀ F' H' θ' σ ρ o v s, Tw F H θ F' H' θ' → Ok B F' H' θ' σ ρ o → RepS F' θ' v s → D.rt s o → E.rt v H'
  bk : ∀ F' H' θ' σ ρ o, Tw F H θ F' H' θ' → Ok B F' H' θ' σ ρ o → D.bk ρ o → E.bk σ H'
  ct : ∀ F' H' θ' σ ρ o, Tw F H θ F' H' θ' → Ok B F' H' θ' σ ρ o → D.ct ρ o → E.ct σ H'
theorem Sat.on {B : Base} {F H F1 H1 : Hp} {θ θ1 : List Addr} {D : AD} {E : Ends} (h : Sat B F H θ D E) (t : Tw F H θ F1 H1 θ1) : Sat B F1 H1 θ1 D E :=
  ⟨fun F' H' θ' σ ρ o t' => h.nx F' H' θ' σ ρ o (t.trans t'), fun F' H' θ' σ ρ o v s t' => h.rt F' H' θ' σ ρ o v s (t.trans t'), fun F' H' θ' σ ρ o t' => h.bk F' H' θ' σ ρ o (t.trans t'), fun F' H' θ' σ ρ o t' => h.ct F' H' θ' σ ρ o (t.trans t')⟩
def WS (B : Base) (t : TS) (D : AD) (ρ : R) (o : O) : Prop := ∀ F H θ σ, Ok B F H θ σ ρ o → ∀ E : Ends, Sat B F H θ D E → t E σ H
def AG (B : Base) (g : TG) (x : Sl) (ρ : R) (o : O) (P : R → O → Prop) : Prop :=
  ∀ F H θ σ v, Ok B F H θ σ ρ o → RepS F θ v x → ∀ Q : St → Hp → Prop, (∀ F' H' θ' σ' ρ' o', Tw F H θ F' H' θ' → Ok B F' H' θ' σ' ρ' o' → P ρ' o' → Q σ' H') → g v σ H Q
def AGs (B : Base) (g : TGs) (xs : List Sl) (ρ : R) (o : O) (P : R → O → Prop) : Prop :=
  ∀ F H θ σ vs, Ok B F H θ σ ρ o → RepSL F θ vs xs → ∀ Q : St → Hp → Prop, (∀ F' H' θ' σ' ρ' o', Tw F H θ F' H' θ' → Ok B F' H' θ' σ' ρ' o' → P ρ' o' → Q σ' H') → g vs σ H Q
/-- an exception of the class at C with the fields fs is wished for -/
def AX (B : Base) (W : WX) (ρ : R) (o : O) (C : Addr) (fs : List (Str × D)) : Prop :=
  ∀ F H θ σ dd ks, Ok B F H θ σ ρ o → F dd = some (.xd ks) → RepF F ks fs → W (.ref C) (some dd) σ H
section
variable {B : Base} {ρ : R} {o : O} {P : Sl → O → Prop} {ta tb te : TE} {D0 : AD}
/-! ### expressions -/
theorem e_var {i : Nat} {s : Sl} (h : ρ[i]? = some (some s)) (p : P s o) : AE B (tVar i) ρ o P := fun F H θ σ k Q q => by
  obtain ⟨v, h1, h2⟩ := k.sl.at_ i s h
  exact ⟨v, h1, q v s F H θ o (Tw.refl F H θ) k h2 p⟩
theorem e_int {i : Int} (p : P (.da (.int i)) o) : AE B (tC (.int i)) ρ o P := fun F H θ σ k Q q => q _ _ F H θ o (Tw.refl F H θ) k (RepS.dat (Rep.int i)) p
theorem e_bl {b : Bool} (p : P (.da (.bl b)) o) : AE B (tC (.bl b)) ρ o P := fun F H θ σ k Q q => q _ _ F H θ o (Tw.refl F H θ) k (RepS.dat (Rep.bl b)) p
theorem e_str {x : Str} (p : P (.da (.str x)) o) : AE B (tC (.str x)) ρ o P := fun F H θ σ k Q q => q _ _ F H θ o (Tw.refl F H θ) k (RepS.dat (Rep.str x)) p
theorem e_non (p : P (.da .non) o) : AE B (tC .non) ρ o P := fun F H θ σ k Q q => q _ _ F H θ o (Tw.refl F H θ) k (RepS.dat Rep.non) p
theorem e_raw {v : V} (p : P (.da (.raw v)) o) : AE B (tC v) ρ o P := fun F H θ σ k Q q => q _ _ F H θ o (Tw.refl F H θ) k (RepS.dat (Rep.raw v)) p
theorem e_op {r : R2} (h : AE B ta ρ o fun x o1 => AE B tb ρ o1 fun y o2 => A2 B r x y o2 P) : AE B (tOp r ta tb) ρ o P := fun F H θ σ k Q q =>
  h F H θ σ k _ fun v x F1 H1 θ1 o1 t1 k1 r1 p1 => p1 F1 H1 θ1 σ k1 _ fun u y F2 H2 θ2 o2 t2 k2 r2 p2 =>
    p2 F2 H2 θ2 σ ρ v u k2 (r1.mono t2.ff t2.pre) r2 Q fun w s F' H' θ' o' t3 k3 r3 p3 => q w s F' H' θ' o' ((t1.trans t2).trans t3) k3 r3 p3
theorem e_un {r : V → Hp → VK → Prop} (h : AE B ta ρ o fun x o1 => A1 B r x o1 P) : AE B (tUn r ta) ρ o P := fun F H θ σ k Q q =>
  h F H θ σ k _ fun v x F1 H1 θ1 o1 t1 k1 r1 p1 => p1 F1 H1 θ1 σ ρ v k1 r1 Q fun w s F' H' θ' o' t3 k3 r3 p3 => q w s F' H' θ' o' (t1.trans t3) k3 r3 p3
theorem a_nil {P : List Sl → O → Prop} (p : P [] o) : AA B tNil ρ o P := fun F H θ σ k Q q => q [] [] F H θ o (Tw.refl F H θ) k .nil p
theorem a_cons {tr : TA} {P : List Sl → O → Prop} (h : AE B ta ρ o fun x o1 => AA B tr ρ o1 fun xs o2 => P (x :: xs) o2) : AA B (tCons ta tr) ρ o P := fun F H θ σ k Q q =>
  h F H θ σ k _ fun v x F1 H1 θ1 o1 t1 k1 r1 p1 => p1 F1 H1 θ1 σ k1 _ fun us ys F2 H2 θ2 o2 t2 k2 r2 p2 => q _ _ F2 H2 θ2 o2 (t1.trans t2) k2 (.cons (r1.mono t2.ff t2.pre) r2) p2
theorem e_cb {r : List V → Hp → VK → Prop} {t : TA} (h : AA B t ρ o fun xs o1 => AN B r xs o1 P) : AE B (tCB r t) ρ o P := fun F H θ σ k Q q =>
  h F H θ σ k _ fun vs xs F1 H1 θ1 o1 t1 k1 r1 p1 => p1 F1 H1 θ1 σ ρ vs k1 r1 Q fun w s F' H' θ' o' t3 k3 r3 p3 => q w s F' H' θ' o' (t1.trans t3) k3 r3 p3
/-- all of them data -/
theorem da_all {F : Hp} {θ : List Addr} : ∀ {vs : List V} {ds : List D}, RepSL F θ vs (ds.map Sl.da) → RepL F vs ds
  | [], [], _ => .nil
  | _ :: _, _ :: _, .cons h r => .cons h (da_all r)
theorem all_da {F : Hp} {θ : List Addr} : ∀ {vs : List V} {ds : List D}, RepL F vs ds → RepSL F θ vs (ds.map Sl.da)
  | _, _, .nil => .nil
  | _, _, .cons h r => .cons h (all_da r)
theorem e_tup {t : TA} (h : AA B t ρ o fun xs o1 => ∃ ds : List D, xs = ds.map Sl.da ∧ ds.length ≤ sizeLine ∧ P (.da (.tup ds)) o1) : AE B (tTup t) ρ o P := fun F H θ σ k Q q =>
  h F H θ σ k _ fun vs xs F1 H1 θ1 o1 t1 k1 r1 ⟨ds, e, l, p1⟩ => by
    subst e
    have r := da_all r1
    refine ⟨by rw [r.len]; exact l, fun p n => ?_⟩
    obtain ⟨t2, k2⟩ := k1.put (u := .tup vs) n
    exact q _ _ _ _ _ _ (t1.trans t2.w) k2 (RepS.dat (Rep.tup upd_same (r.mono t2.ff))) p1
/-- [..] as data; as an own object -/
theorem e_lst {t : TA} (h : AA B t ρ o fun xs o1 => ∃ ds : List D, xs = ds.map Sl.da ∧ ds.length ≤ sizeLine ∧ P (.da (.lst ds)) o1) : AE B (tLst t) ρ o P := fun F H θ σ k Q q =>
  h F H θ σ k _ fun vs xs F1 H1 θ1 o1 t1 k1 r1 ⟨ds, e, l, p1⟩ => by
    subst e
    have r := da_all r1
    refine ⟨by rw [r.len]; exact l, fun p n => ?_⟩
    obtain ⟨t2, k2⟩ := k1.put (u := .lst vs) n
    exact q _ _ _ _ _ _ (t1.trans t2.w) k2 (RepS.dat (Rep.lst upd_same (r.mono t2.ff))) p1
theorem Paired.len {α β : Type} {F : α → β → Prop} : ∀ {xs : List α} {ys : List β}, Paired F xs ys → xs.length = ys.length
  | _, _, .nil => rfl
  | _, _, .cons _ r => congrArg (· + 1) (Paired.len r)
theorem e_lstO {t : TA} (h : AA B t ρ o fun xs o1 => xs.length ≤ sizeLine ∧ P (.ow o1.length) (o1 ++ [.lst xs])) : AE B (tLst t) ρ o P := fun F H θ σ k Q q =>
  h F H θ σ k _ fun vs xs F1 H1 θ1 o1 t1 k1 r1 ⟨l, p1⟩ => by
    refine ⟨by rw [Paired.len r1]; exact l, fun p n => ?_⟩
    obtain ⟨t2, k2⟩ := k1.lay (u := .lst vs) (w := .lst xs) n ⟨vs, upd_same, r1.mono (Ex.refl _) ⟨[p], rfl⟩⟩
    exact q _ _ _ _ _ _ (t1.trans t2.w) k2 (RepS.own (by rw [← k1.len, List.getElem?_append_right (Nat.le_refl _)]; simp)) p1
theorem e_dnew (p1 : P (.ow o.length) (o ++ [.dic []])) : AE B tDNewK ρ o P := fun F H θ σ k Q q p n => by
  obtain ⟨t2, k2⟩ := k.lay (u := .dK []) (w := .dic []) n ⟨[], upd_same, .nil⟩
  exact q _ _ _ _ _ _ t2.w k2 (RepS.own (by rw [← k.len, List.getElem?_append_right (Nat.le_refl _)]; simp)) p1
/-! ### tests -/
theorem t_B {te : TE} {P : Bool → O → Prop} (h : AE B te ρ o fun s o1 => ∃ b, s = .da (.bl b) ∧ P b o1) : AT B (tB te) ρ o P := fun F H θ σ k Q q =>
  h F H θ σ k _ fun v s F1 H1 θ1 o1 t1 k1 r1 ⟨b, e, p⟩ => by
    subst e
    cases r1
    exact ⟨b, rfl, q b F1 H1 θ1 o1 t1 k1 p⟩
theorem t_test {te : TE} {P : Bool → O → Prop} (h : AE B te ρ o fun s o1 => ∃ b, s = .da (.bl b) ∧ P b o1) : AT B (tTest te) ρ o P := t_B h
theorem t_and {t u : TT} {P : Bool → O → Prop} (h : AT B t ρ o fun b o1 => if b = true then AT B u ρ o1 P else P false o1) : AT B (tAnd t u) ρ o P := fun F H θ σ k Q q =>
  h F H θ σ k _ fun b F1 H1 θ1 o1 t1 k1 p => by
    cases b with
    | true => exact p F1 H1 θ1 σ k1 Q fun b F' H' θ' o' t2 k2 p2 => q b F' H' θ' o' (t1.trans t2) k2 p2
    | false => exact q false F1 H1 θ1 o1 t1 k1 p
theorem t_or {t u : TT} {P : Bool → O → Prop} (h : AT B t ρ o fun b o1 => if b = true then P true o1 else AT B u ρ o1 P) : AT B (tOr t u) ρ o P := fun F H θ σ k Q q =>
  h F H θ σ k _ fun b F1 H1 θ1 o1 t1 k1 p => by
    cases b with
    | true => exact q true F1 H1 θ1 o1 t1 k1 p
    | false => exact p F1 H1 θ1 σ k1 Q fun b F' H' θ' o' t2 k2 p2 => q b F' H' θ' o' (t1.trans t2) k2 p2
theorem t_not {t : TT} {P : Bool → O → Prop} (h : AT B t ρ o fun b o1 => P (!b) o1) : AT B (tNot t) ρ o P := fun F H θ σ k Q q =>
  h F H θ σ k _ fun b F1 H1 θ1 o1 t1 k1 p => q (!b) F1 H1 θ1 o1 t1 k1 p
theorem e_if {t : TT} (h : AT B t ρ o fun b o1 => if b = true then AE B ta ρ o1 P else AE B tb ρ o1 P) : AE B (tIf t ta tb) ρ o P := fun F H θ σ k Q q =>
  h F H θ σ k _ fun b F1 H1 θ1 o1 t1 k1 p => by
    cases b with
    | true => exact p F1 H1 θ1 σ k1 Q fun v s F' H' θ' o' t2 k2 r2 p2 => q v s F' H' θ' o' (t1.trans t2) k2 r2 p2
    | false => exact p F1 H1 θ1 σ k1 Q fun v s F' H' θ' o' t2 k2 r2 p2 => q v s F' H' θ' o' (t1.trans t2) k2 r2 p2
theorem e_andV (h : AE B ta ρ o fun s o1 => ∃ b, s = .da (.bl b) ∧ if b = true then AE B tb ρ o1 P else P (.da (.bl false)) o1) : AE B (tAndV ta tb) ρ o P := fun F H θ σ k Q q =>
  h F H θ σ k _ fun v s F1 H1 θ1 o1 t1 k1 r1 ⟨b, e, p⟩ => by
    subst e
    cases r1
    refine ⟨b, rfl, ?_⟩
    cases b with
    | true => exact p F1 H1 θ1 σ k1 Q fun v s F' H' θ' o' t2 k2 r2 p2 => q v s F' H' θ' o' (t1.trans t2) k2 r2 p2
    | false => exact q _ _ F1 H1 θ1 o1 t1 k1 (RepS.dat (Rep.bl false)) p
theorem e_orV (h : AE B ta ρ o fun s o1 => ∃ b, s = .da (.bl b) ∧ if b = true then P (.da (.bl true)) o1 else AE B tb ρ o1 P) : AE B (tOrV ta tb) ρ o P := fun F H θ σ k Q q =>
  h F H θ σ k _ fun v s F1 H1 θ1 o1 t1 k1 r1 ⟨b, e, p⟩ => by
    subst e
    cases r1
    refine ⟨b, rfl, ?_⟩
    cases b with
    | true => exact q _ _ F1 H1 θ1 o1 t1 k1 (RepS.dat (Rep.bl true)) p
    | false => exact p F1 H1 θ1 σ k1 Q fun v s F' H' θ' o' t2 k2 r2 p2 => q v s F' H' θ' o' (t1.trans t2) k2 r2 p2
theorem e_notV (h : AE B ta ρ o fun s o1 => ∃ b, s = .da (.bl b) ∧ P (.da (.bl (!b))) o1) : AE B (tNotV ta) ρ o P := fun F H θ σ k Q q =>
  h F H θ σ k _ fun v s F1 H1 θ1 o1 t1 k1 r1 ⟨b, e, p⟩ => by
    subst e
    cases r1
    exact ⟨b, rfl, q _ _ F1 H1 θ1 o1 t1 k1 (RepS.dat (Rep.bl _)) p⟩
/-- a chain of two comparisons -/
theorem e_chain {r r' : R2} {tc : TE} (h : AE B ta ρ o fun x o1 => AE B tb ρ o1 fun y o2 => A2 B r x y o2 fun z o3 => ∃ b, z = .da (.bl b) ∧ if b = true then AE B tc ρ o3 fun w o4 => A2 B r' y w o4 P else P (.da (.bl false)) o3) :
    AE B (tChain r r' ta tb tc) ρ o P := by
  intro F H θ σ k Q q
  refine h F H θ σ k _ fun v x F1 H1 θ1 o1 t1 k1 r1 p1 => ?_
  refine p1 F1 H1 θ1 σ k1 _ fun u y F2 H2 θ2 o2 t2 k2 r2 p2 => ?_
  refine p2 F2 H2 θ2 σ ρ v u k2 (r1.mono t2.ff t2.pre) r2 _ fun w s F3 H3 θ3 o3 t3 k3 r3 p3 => ?_
  obtain ⟨b, e, p3⟩ := p3
  subst e
  cases r3
  refine ⟨b, rfl, ?_⟩
  cases b with
  | true =>
    refine p3 F3 H3 θ3 σ k3 _ fun u' y' F4 H4 θ4 o4 t4 k4 r4 p4 => ?_
    exact p4 F4 H4 θ4 σ ρ u u' k4 ((r2.mono t3.ff t3.pre).mono t4.ff t4.pre) r4 Q fun w s F' H' θ' o' t5 k5 r5 p5 => q w s F' H' θ' o' ((((t1.trans t2).trans t3).trans t4).trans t5) k5 r5 p5
  | false => exact q _ _ F3 H3 θ3 o3 ((t1.trans t2).trans t3) k3 (RepS.dat (Rep.bl false)) p3
/-! ### statements -/
theorem s_seq {t u : TS} (h : WS B t { D0 with nx := fun ρ o => WS B u D0 ρ o } ρ o) : WS B (tSeq t u) D0 ρ o := fun F H θ σ k E hE =>
  h F H θ σ k { E with nx := u E } ⟨fun F' H' θ' σ ρ o t k w => w F' H' θ' σ k E (hE.on t), hE.rt, hE.bk, hE.ct⟩
theorem s_next (h : D0.nx ρ o) : WS B tNext D0 ρ o := fun F H θ σ k E hE => hE.nx F H θ σ ρ o (Tw.refl F H θ) k h
theorem s_brk (h : D0.bk ρ o) : WS B tBreak D0 ρ o := fun F H θ σ k E hE => hE.bk F H θ σ ρ o (Tw.refl F H θ) k h
theorem s_cont (h : D0.ct ρ o) : WS B tCont D0 ρ o := fun F H θ σ k E hE => hE.ct F H θ σ ρ o (Tw.refl F H θ) k h
theorem s_drop (h : AE B te ρ o fun _ o1 => D0.nx ρ o1) : WS B (tDrop te) D0 ρ o := fun F H θ σ k E hE => h F H θ σ k _ fun v s F1 H1 θ1 o1 t1 k1 r1 p => hE.nx F1 H1 θ1 σ ρ o1 t1 k1 p
theorem s_ret (h : AE B te ρ o D0.rt) : WS B (tRet te) D0 ρ o := fun F H θ σ k E hE => h F H θ σ k _ fun v s F1 H1 θ1 o1 t1 k1 r1 p => hE.rt F1 H1 θ1 σ ρ o1 v s t1 k1 r1 p
theorem s_retN (h : D0.rt (.da .non) o) : WS B tRetN D0 ρ o := fun F H θ σ k E hE => hE.rt F H θ σ ρ o _ _ (Tw.refl F H θ) k (RepS.dat Rep.non) h
theorem s_if {c : TT} {t u : TS} (h : AT B c ρ o fun b o1 => if b = true then WS B t D0 ρ o1 else WS B u D0 ρ o1) : WS B (tIfS c t u) D0 ρ o := fun F H θ σ k E hE =>
  h F H θ σ k _ fun b F1 H1 θ1 o1 t1 k1 p => by
    cases b with
    | true => exact p F1 H1 θ1 σ k1 E (hE.on t1)
    | false => exact p F1 H1 θ1 σ k1 E (hE.on t1)
theorem s_asg {g : TG} (h : AE B te ρ o fun x o1 => AG B g x ρ o1 D0.nx) : WS B (tAsg te g) D0 ρ o := fun F H θ σ k E hE =>
  h F H θ σ k _ fun v s F1 H1 θ1 o1 t1 k1 r1 p => p F1 H1 θ1 σ v k1 r1 _ fun F' H' θ' σ' ρ' o' t2 k2 p2 => hE.nx F' H' θ' σ' ρ' o' (t1.trans t2) k2 p2
theorem g_name {i : Nat} {x : Sl} {P : R → O → Prop} (h : P (ρ.set i (some x)) o) : AG B (gName i) x ρ o P := fun F H θ σ v k r Q q =>
  q F H θ (σ.set i (some v)) _ o (Tw.refl F H θ) (k.slots (k.sl.set r)) h
theorem g_nil {P : R → O → Prop} (h : P ρ o) : AGs B gNil [] ρ o P := fun F H θ σ v k r Q q => by
  cases r
  exact ⟨rfl, q F H θ σ ρ o (Tw.refl F H θ) k h⟩
theorem g_cons {g : TG} {gs : TGs} {x : Sl} {xs : List Sl} {P : R → O → Prop} (h : AG B g x ρ o fun ρ1 o1 => AGs B gs xs ρ1 o1 P) : AGs B (gCons g gs) (x :: xs) ρ o P := fun F H θ σ vs k r Q q => by
  cases r with
  | @cons v _ vs' _ r rs =>
    exact ⟨v, vs', rfl, h F H θ σ v k r _ fun F1 H1 θ1 σ1 ρ1 o1 t1 k1 p1 => p1 F1 H1 θ1 σ1 vs' k1 (RepSL.mono t1.ff t1.pre rs) Q fun F' H' θ' σ' ρ' o' t2 k2 p2 => q F' H' θ' σ' ρ' o' (t1.trans t2) k2 p2⟩
theorem g_tup {K : PySem.W.Frag} {n : Nat} {gs : TGs} {ds : List D} {P : R → O → Prop} (hn : ds.length = n) (h : AGs B gs (ds.map Sl.da) ρ o P) : AG B (gTup K n gs) (.da (.tup ds)) ρ o P := fun F H θ σ v k r Q q => by
  cases r with
  | @tup a xs _ e rl => exact ⟨a, xs, rfl, SqT.of (k.fh a _ e), by rw [rl.len, hn], h F H θ σ xs k (all_da rl) Q q⟩
/-- a, b = x, y -/
theorem s_par {i j : Nat} {t : TA} (h : AA B t ρ o fun xs o1 => ∃ x y, xs = [x, y] ∧ D0.nx ((ρ.set i (some x)).set j (some y)) o1) : WS B (tPar i j t) D0 ρ o := fun F H θ σ k E hE =>
  h F H θ σ k _ fun vs ss F1 H1 θ1 o1 t1 k1 r1 ⟨x, y, e, p⟩ => by
    subst e
    cases r1 with
    | @cons v _ _ _ r rs =>
      cases rs with
      | @cons w _ _ _ r' rs' =>
        cases rs'
        exact ⟨v, w, rfl, hE.nx F1 H1 θ1 _ _ o1 t1 (k1.slots ((k1.sl.set r).set r')) p⟩
theorem s_par3 {i j l : Nat} {t : TA} (h : AA B t ρ o fun xs o1 => ∃ x y z, xs = [x, y, z] ∧ D0.nx (((ρ.set i (some x)).set j (some y)).set l (some z)) o1) : WS B (tPar3 i j l t) D0 ρ o := fun F H θ σ k E hE =>
  h F H θ σ k _ fun vs ss F1 H1 θ1 o1 t1 k1 r1 ⟨x, y, z, e, p⟩ => by
    subst e
    cases r1 with
    | @cons v _ _ _ r rs =>
      cases rs with
      | @cons w _ _ _ r' rs' =>
        cases rs' with
        | @cons u _ _ _ r'' rs'' =>
          cases rs''
          exact ⟨v, w, u, rfl, hE.nx F1 H1 θ1 _ _ o1 t1 (k1.slots (((k1.sl.set r).set r').set r'')) p⟩
/-- name op= e -/
theorem s_aug {i : Nat} {ti : TIp} {x : Sl} (hx : ρ[i]? = some (some x)) (h : AE B te ρ o fun y o1 => A2 B ti x y o1 fun z o2 => D0.nx (ρ.set i (some z)) o2) : WS B (tAug i te ti) D0 ρ o := fun F H θ σ k E hE => by
  obtain ⟨v, h1, h2⟩ := k.sl.at_ i x hx
  exact ⟨v, h1, h F H θ σ k _ fun u y F1 H1 θ1 o1 t1 k1 r1 p1 => p1 F1 H1 θ1 σ ρ v u k1 (h2.mono t1.ff t1.pre) r1 _ fun w s F2 H2 θ2 o2 t2 k2 r2 p2 => hE.nx F2 H2 θ2 _ _ o2 (t1.trans t2) (k2.slots (k2.sl.set r2)) p2⟩
/-- weakening -/
theorem WS.mono {t : TS} {D1 : AD} (h : WS B t D1 ρ o) (h1 : ∀ ρ o, D1.nx ρ o → D0.nx ρ o) (h2 : ∀ s o, D1.rt s o → D0.rt s o) (h3 : ∀ ρ o, D1.bk ρ o → D0.bk ρ o) (h4 : ∀ ρ o, D1.ct ρ o → D0.ct ρ o) : WS B t D0 ρ o := fun F H θ σ k E hE =>
  h F H θ σ k E ⟨fun F' H' θ' σ ρ o t k w => hE.nx F' H' θ' σ ρ o t k (h1 _ _ w), fun F' H' θ' σ ρ o v s t k r w => hE.rt F' H' θ' σ ρ o v s t k r (h2 _ _ w), fun F' H' θ' σ ρ o t k w => hE.bk F' H' θ' σ ρ o t k (h3 _ _ w), fun F' H' θ' σ ρ o t k w => hE.ct F' H' θ' σ ρ o t k (h4 _ _ w)⟩
/-- a statement, a word, the rest -/
theorem s_cut {t u : TS} (Mid : R → O → Prop) (h : WS B t { D0 with nx := Mid } ρ o) (h2 : ∀ ρ o, Mid ρ o → WS B u D0 ρ o) : WS B (tSeq t u) D0 ρ o :=
  s_seq (h.mono (fun ρ o m => h2 ρ o m) (fun _ _ x => x) (fun _ _ x => x) (fun _ _ x => x))
theorem AE.mono {P P' : Sl → O → Prop} (h : AE B te ρ o P) (hp : ∀ s o, P s o → P' s o) : AE B te ρ o P' := fun F H θ σ k Q q => h F H θ σ k Q fun v s F' H' θ' o' t k' r p => q v s F' H' θ' o' t k' r (hp s o' p)
theorem AT.mono {t : TT} {P P' : Bool → O → Prop} (h : AT B t ρ o P) (hp : ∀ s o, P s o → P' s o) : AT B t ρ o P' := fun F H θ σ k Q q => h F H θ σ k Q fun v F' H' θ' o' t k' p => q v F' H' θ' o' t k' (hp v o' p)
/-- forgetting what a slot holds -/
theorem WS.forget {t : TS} {ρ' : R} (hl : ρ'.length = ρ.length) (h : ∀ (i : Nat) (s : Sl), ρ'[i]? = some (some s) → ρ[i]? = some (some s)) (w : WS B t D0 ρ' o) : WS B t D0 ρ o := fun F H θ σ k E hE =>
  w F H θ σ (k.slots ⟨k.sl.len.trans hl.symm, fun i s q => k.sl.at_ i s (h i s q)⟩) E hE
end
end AB

set_option Elab.async false
set_option linter.all false
set_option maxRecDepth 100000
set_option maxHeartbeats 4000000
set_option autoImplicit false
namespace AB
open PySem L2 PySem.Spec PyProof.Rows
/-! ### operators by values, of several kinds at once -/
section
variable {X : Cx}
def rAddI : R2 := rI0 fun i j => .int (i + j)
def rAddS : R2 := fun x y H Q => ∃ i j, x = .str i ∧ y = .str j ∧ i.length + j.length ≤ sizeLine ∧ Q (.str (i ++ j)) H
def rAddA : R2 := fun x y H Q => rAddI x y H Q ∨ rAddS x y H Q ∨ rCat x y H Q
theorem op_addA : OpR X (binaryOp .Add) rAddA := OpR.or op_add (OpR.or op_add_str op_cat)
def rSubA : R2 := rI0 fun i j => .int (i - j)
theorem op_subA : OpR X (binaryOp .Sub) rSubA := op_sub
def rMulI : R2 := rI CMul fun i j => .int (i * j)
def rMulA : R2 := fun x y H Q => rMulI x y H Q ∨ rRep x y H Q
theorem op_mulA : OpR X (binaryOp .Mult) rMulA := OpR.or op_mul op_rep
def rModA : R2 := rI (fun _ j => 0 < j) fun i j => .int (i % j)
theorem op_modA : OpR X (binaryOp .Mod) rModA := op_mod
def rDivA : R2 := rI CDivW fun i j => .int (i / j)
theorem op_divA : OpR X (binaryOp .FloorDiv) rDivA := op_fdivW
def rPowA : R2 := rI CPow fun i j => .int (i ^ j.toNat)
theorem op_powA : OpR X (binaryOp .Pow) rPowA := op_pow
def rAndA : R2 := rI0 fun i j => .int (Builtin.bitAnd i j)
theorem op_andA : OpR X (binaryOp .BitAnd) rAndA := op_and
def rBorA : R2 := rI0 fun i j => .int (Builtin.bitOr i j)
theorem op_borA : OpR X (binaryOp .BitOr) rBorA := op_or
def rShlA : R2 := rI CPow fun i j => .int (i * 2 ^ j.toNat)
theorem op_shlA : OpR X (binaryOp .LShift) rShlA := op_shl
def rLtI : R2 := rI0 fun i j => .bl (decide (i < j))
def rLtS : R2 := fun x y H Q => ∃ i j, x = .str i ∧ y = .str j ∧ Q (.bl (decide (i.cps.toList < j.cps.toList))) H
def rLtA : R2 := fun x y H Q => rLtI x y H Q ∨ rLtS x y H Q
theorem op_ltA : OpR X (compareOp .Lt) rLtA := OpR.or op_lt op_lt_str
def rLeA : R2 := rI0 fun i j => .bl (decide (i ≤ j))
theorem op_leA : OpR X (compareOp .LtE) rLeA := op_le
def rGtA : R2 := rI0 fun i j => .bl (decide (j < i))
theorem op_gtA : OpR X (compareOp .Gt) rGtA := op_gt
def rGeA : R2 := rI0 fun i j => .bl (decide (j ≤ i))
theorem op_geA : OpR X (compareOp .GtE) rGeA := op_ge
def rIsA : R2 := fun x y H Q => y = .non ∧ Q (.bl (decide (x = .non))) H
theorem op_isA : OpR X (compareOp .Is) rIsA := op_isN
def rIsNotA : R2 := fun x y H Q => y = .non ∧ Q (.bl (!decide (x = .non))) H
theorem op_isNotA : OpR X (compareOp .IsNot) rIsNotA := op_notN
def rUnA : V → Hp → VK → Prop := rU fun i => .int (-i)
theorem un_negA : UnR X (unaryOp .USub) rUnA := un_neg
/-- ==, != of data of any depth up to 60 -/
def rEqP (K : PySem.W.Frag) : R2 := fun x y H Q => ∃ d e, Dp K H x d ∧ Dp K H y e ∧ d.plain = true ∧ e.plain = true ∧ min d.depth e.depth ≤ 60 ∧ Q (.bl (PyData.eqv d e)) H
def rNeP (K : PySem.W.Frag) : R2 := fun x y H Q => ∃ d e, Dp K H x d ∧ Dp K H y e ∧ d.plain = true ∧ e.plain = true ∧ min d.depth e.depth ≤ 60 ∧ Q (.bl (!PyData.eqv d e)) H
theorem op_eqP (hu : X.A.units + 64 < cLine) : OpR X (compareOp .Eq) (rEqP X.K) := by
  intro pins s σ H x y v u Q I rx ry h
  obtain ⟨d, e, hd, he, pd, pe, hm, q⟩ := h
  obtain ⟨as, r1⟩ := Dp.reads I d x v hd rx
  obtain ⟨bs, r2⟩ := Dp.reads I e y u he ry
  exact SeqAt.eq_plain r1 r2 pd pe (by omega) ⟨.bl _, H, I, rfl, q⟩
theorem op_neP (hu : X.A.units + 64 < cLine) : OpR X (compareOp .NotEq) (rNeP X.K) := by
  intro pins s σ H x y v u Q I rx ry h
  obtain ⟨d, e, hd, he, pd, pe, hm, q⟩ := h
  obtain ⟨as, r1⟩ := Dp.reads I d x v hd rx
  obtain ⟨bs, r2⟩ := Dp.reads I e y u he ry
  exact SeqAt.ne_plain r1 r2 pd pe (by omega) ⟨.bl _, H, I, rfl, q⟩
/-- in: a list or a tuple of data, a dict, one sign in a text -/
def rInP (K : PySem.W.Frag) (f : Bool → Bool) : R2 := fun x y H Q => ∃ d ds, Dp K H x d ∧ (Dp K H y (.list ds) ∨ Dp K H y (.tuple ds)) ∧ d.plain = true ∧ PyData.plainAll ds = true ∧ d.depth ≤ 60 ∧ Q (.bl (f (ds.any fun z => PyData.eqv z d))) H
def rInD (f : Bool → Bool) : R2 := fun y x H Q => ∃ a r, x = .ref a ∧ DGet H a y r ∧ Q (.bl (f r.isSome)) H
def rInC (f : Bool → Bool) : R2 := fun x y H Q => ∃ (c : Nat) (z : Str), x = .str ⟨#[c]⟩ ∧ y = .str z ∧ Q (.bl (f (decide (c ∈ z.cps.toList)))) H
def rInA (K : PySem.W.Frag) : R2 := fun x y H Q => rInP K id x y H Q ∨ rInD id x y H Q ∨ rInC id x y H Q
def rNotInA (K : PySem.W.Frag) : R2 := fun x y H Q => rInP K (!·) x y H Q ∨ rInD (!·) x y H Q ∨ rInC (!·) x y H Q
theorem op_inA (hu : X.A.units + 64 < cLine) : OpR X (compareOp .In) (rInA X.K) := by
  refine OpR.or ?_ (OpR.or ?_ op_in_sign)
  · intro pins s σ H x y v u Q I rx ry h
    obtain ⟨d, ds, hd, he, pd, pe, hm, q⟩ := h
    obtain ⟨as, r1⟩ := Dp.reads I d x v hd rx
    rcases he with he | he
    · obtain ⟨bs, r2⟩ := Dp.reads I _ y u he ry
      exact SeqAt.in_list_data r2 r1 pe pd (by omega) ⟨.bl _, H, I, rfl, q⟩
    · obtain ⟨bs, r2⟩ := Dp.reads I _ y u he ry
      exact SeqAt.in_tuple_data r2 r1 pe pd (by omega) ⟨.bl _, H, I, rfl, q⟩
  · intro pins s σ H x y v u Q I rx ry h
    obtain ⟨a, r, rfl, g, q⟩ := h
    obtain rfl : u = Value.ref a := ry
    exact d_in (by omega) I g rx fun s3 I3 => ⟨.bl _, H, I3, rfl, q⟩
theorem op_notInA (hu : X.A.units + 64 < cLine) : OpR X (compareOp .NotIn) (rNotInA X.K) := by
  refine OpR.or ?_ (OpR.or ?_ op_notIn_sign)
  · intro pins s σ H x y v u Q I rx ry h
    obtain ⟨d, ds, hd, he, pd, pe, hm, q⟩ := h
    obtain ⟨as, r1⟩ := Dp.reads I d x v hd rx
    rcases he with he | he
    · obtain ⟨bs, r2⟩ := Dp.reads I _ y u he ry
      exact SeqAt.notIn_list_data r2 r1 pe pd (by omega) ⟨.bl _, H, I, rfl, q⟩
    · obtain ⟨bs, r2⟩ := Dp.reads I _ y u he ry
      exact SeqAt.notIn_tuple_data r2 r1 pe pd (by omega) ⟨.bl _, H, I, rfl, q⟩
  · intro pins s σ H x y v u Q I rx ry h
    obtain ⟨a, r, rfl, g, q⟩ := h
    obtain rfl : u = Value.ref a := ry
    exact d_notIn (by omega) I g rx fun s3 I3 => ⟨.bl _, H, I3, rfl, q⟩
/-- a subscript: a list, a tuple, a text, a dict -/
def rIxD : R2 := fun x y H Q => ∃ a v, x = .ref a ∧ DGet H a y (some v) ∧ Q v H
def rIxA (K : PySem.W.Frag) : R2 := fun x y H Q => rIx K x y H Q ∨ rIxD x y H Q
theorem ix_A (hu : X.A.units + 64 < cLine) : IxR X (rIxA X.K) := by
  refine IxR.or ix_seq ?_
  intro value slice pins s σ H x y v u Q I rx ry h hs
  obtain ⟨a, w', rfl, g, q⟩ := h
  obtain rfl : v = Value.ref a := rx
  exact tail_any (dict_typeIs I g) PySem.F.slot_dict_getitem.lookup (d_getItem (by omega) I g ry fun w2 s3 I3 rw' => ⟨w', H, I3, rw', q⟩) hs
/-- a slice: a list, a text -/
def rSlA (K : PySem.W.Frag) : V → Option Int → Option Int → Hp → VK → Prop := fun x lo hi H Q => rSlL K x lo hi H Q ∨ rSlS x lo hi H Q
theorem sl_A : SlR X (rSlA X.K) := SlR.or sl_list sl_str
/-- targets: a tuple or a list of that length -/
theorem PG.or {tg : Expr} {g g' : TG} (h : PG X tg g) (h' : PG X tg g') : PG X tg (fun v σ H Q => g v σ H Q ∨ g' v σ H Q) :=
  ⟨fun pins s σ H v u Q I r q => q.elim (h.run pins s σ H v u Q I r) (h'.run pins s σ H v u Q I r)⟩
def gUn (K : PySem.W.Frag) (n : Nat) (t : TGs) : TG := fun v σ H Q => gTup K n t v σ H Q ∨ gLst K n t v σ H Q
theorem pg_un {es : List Expr} {k : Nat} {t : TGs} {n : Nat} {pos : Pos} (hc : X.calm = true) (h : PGs X es t)
    (hn : (assignEach es X.env).length = n := by rfl) (hst : (assignEach es X.env).findIdx? (·.1) = none := by rfl) : PG X (.Tuple es k pos) (gUn X.K n t) := PG.or (pg_tup hc h hn hst) (pg_lst hc h hn hst)
/-- a walk over a list, a tuple, a text -/
def iSq (K : PySem.W.Frag) (tl : TE) : TI := fun σ H R => tl σ H fun x H1 => (∃ a, x = .ref a ∧ (∃ xs, SqL K H1 a xs) ∧ R (Itl K a) H1) ∨ (∃ a, x = .ref a ∧ (∃ xs, SqT K H1 a xs) ∧ R (Itt K a) H1) ∨ ∃ z, x = .str z ∧ R (Its z) H1
theorem pi_sq {l tg : Expr} {tl : TE} (hl : PE X l tl) : PI X tg l (iSq X.K tl) := by
  refine ⟨fun pins s σ H R I h => ?_⟩
  refine thn (hl.run pins s σ H _ I h) fun v s1 ⟨x, H1, I1, r1, q1⟩ => ?_
  rcases q1 with ⟨a, e, ⟨xs, hq⟩, q⟩ | ⟨a, e, ⟨xs, hq⟩, q⟩ | ⟨z, e, q⟩
  · subst e
    cases r1
    obtain ⟨its, rv, p, hz⟩ := I1.list hq
    refine wpAny_pyIter_list p.isList ?_
    refine ⟨s1.heap.objs.size, [s1.heap.objs.size], _, _, H1, rfl, I1.kept (t' := s1.toks) fun b o e => Heap.get?_push_of_some _ e, turn_list a _, ⟨_, Heap.get?_push_size _ rfl, rfl, rfl⟩, fun b hb => ?_, q⟩
    have e : b = s1.heap.objs.size := by simpa using hb
    subst e
    exact I1.fpOk (Nat.le_refl _) (I1.hok.fresh (Nat.le_refl _))
  · subst e
    cases r1
    obtain ⟨its, rv, p, hz⟩ := I1.tuple hq
    refine wpAny_pyIter_tuple (show s1.heap.IsTuple a its.toArray from p) ?_
    refine ⟨s1.heap.objs.size, [s1.heap.objs.size], _, _, H1, rfl, I1.kept (t' := s1.toks) fun b o e => Heap.get?_push_of_some _ e, turn_tuple a _, ⟨_, Heap.get?_push_size _ rfl, rfl, rfl⟩, fun b hb => ?_, q⟩
    have e : b = s1.heap.objs.size := by simpa using hb
    subst e
    exact I1.fpOk (Nat.le_refl _) (I1.hok.fresh (Nat.le_refl _))
  · subst e
    obtain ⟨t, rfl⟩ := r1
    cases ha : z.cps.all (· < 128)
    · exact wpAny_pyIter_wide ha (pi_one (tk := s1.toks) I1 _ (turn_str _ z t "str_iterator" (.inr rfl)) ⟨_, Heap.get?_push_size _ rfl, rfl, rfl⟩ q)
    · exact wpAny_pyIter_ascii ha (pi_one (tk := s1.toks) I1 _ (turn_str _ z t "str_ascii_iterator" (.inl rfl)) ⟨_, Heap.get?_push_size _ rfl, rfl, rfl⟩ q)
/-- len -/
def rLenA (K : PySem.W.Frag) : List V → Hp → VK → Prop := fun xs H Q => (∃ x n, xs = [x] ∧ LenV K x H n ∧ Q (.int n) H) ∨ ∃ a kvs, xs = [V.ref a] ∧ H a = some (.dK kvs) ∧ Q (.int kvs.length) H
theorem CallR.or {f : Value} {r r' : List V → Hp → VK → Prop} (h : CallR X f r) (h' : CallR X f r') : CallR X f (fun xs H Q => r xs H Q ∨ r' xs H Q) := fun pins s σ H xs us Q I rv q => q.elim (h pins s σ H xs us Q I rv) (h' pins s σ H xs us Q I rv)
theorem cr_lenA : CallR X (.builtin "len") (rLenA X.K) := CallR.or call_len call_lenD
def rListA (K : PySem.W.Frag) : List V → Hp → VK → Prop := fun xs H Q => ∃ p ys, xs = [.ref p] ∧ (SqL K H p ys ∨ SqT K H p ys) ∧ ∀ l, H l = none → Q (.ref l) (upd H l (.lst ys))
theorem cr_listA : CallR X (.type "list") (rListA X.K) := call_list_of
def rTupA (K : PySem.W.Frag) : List V → Hp → VK → Prop := fun xs H Q => ∃ p ys, xs = [.ref p] ∧ ((SqL K H p ys ∧ ∀ l, H l = none → Q (.ref l) (upd H l (.tup ys))) ∨ (SqT K H p ys ∧ Q (.ref p) H))
theorem cr_tupA : CallR X (.type "tuple") (rTupA X.K) := call_tuple_of
def rStrI : List V → Hp → VK → Prop := fun xs H Q => ∃ i, xs = [.int i] ∧ i.natAbs.log2 < 1920 ∧ Q (.str (toString i)) H
theorem cr_strI : CallR X (.type "str") rStrI := call_str_int
def rIntI : List V → Hp → VK → Prop := fun xs H Q => (∃ i, xs = [.int i] ∧ Q (.int i) H) ∨ ∃ k, xs = [.bl k] ∧ Q (.int (if k then 1 else 0)) H
theorem cr_intI : CallR X (.type "int") rIntI := call_int1
def rAbsI : List V → Hp → VK → Prop := fun xs H Q => ∃ i, xs = [.int i] ∧ Q (.int (if i < 0 then -i else i)) H
theorem cr_absI : CallR X (.builtin "abs") rAbsI := call_abs
def rMax2 : List V → Hp → VK → Prop := fun xs H Q => ∃ i j, xs = [.int i, .int j] ∧ Q (.int (if j > i then j else i)) H
def rMin2 : List V → Hp → VK → Prop := fun xs H Q => ∃ i j, xs = [.int i, .int j] ∧ Q (.int (if j < i then j else i)) H
def rMaxA (K : PySem.W.Frag) : List V → Hp → VK → Prop := fun xs H Q => rMax2 xs H Q ∨ rMax K xs H Q ∨ rNuC3 nuMax3 xs H Q
def rMinA (K : PySem.W.Frag) : List V → Hp → VK → Prop := fun xs H Q => rMin2 xs H Q ∨ rMin K xs H Q ∨ rNuC3 nuMin3 xs H Q
theorem cr_maxA (hc : X.calm = true) : CallR X (.builtin "max") (rMaxA X.K) := CallR.or (call_max2 hc) (CallR.or (cr_max hc) (call_max3Nu hc))
theorem cr_minA (hc : X.calm = true) : CallR X (.builtin "min") (rMinA X.K) := CallR.or (call_min2 hc) (CallR.or (cr_min hc) (call_min3Nu hc))
end
/-! ### what they give -/
section
variable {B : Base} {ρ : R} {o : O} {P : Sl → O → Prop} {K : PySem.W.Frag}
theorem A2.of {r : R2} {x y z : Sl} (h : ∀ F H θ σ ρ v u, Ok B F H θ σ ρ o → RepS F θ v x → RepS F θ u y → ∀ Q : VK, (∀ w, RepS F θ w z → Q w H) → r v u H Q) (p : P z o) : A2 B r x y o P := fun F H θ σ ρ v u k r1 r2 Q q =>
  h F H θ σ ρ v u k r1 r2 Q fun w rw' => q w z F H θ o (Tw.refl F H θ) k rw' p
theorem A1.of {r : V → Hp → VK → Prop} {x z : Sl} (h : ∀ F H θ σ ρ v, Ok B F H θ σ ρ o → RepS F θ v x → ∀ Q : VK, (∀ w, RepS F θ w z → Q w H) → r v H Q) (p : P z o) : A1 B r x o P := fun F H θ σ ρ v k r1 Q q =>
  h F H θ σ ρ v k r1 Q fun w rw' => q w z F H θ o (Tw.refl F H θ) k rw' p
theorem AN.of {r : List V → Hp → VK → Prop} {xs : List Sl} {z : Sl} (h : ∀ F H θ σ ρ vs, Ok B F H θ σ ρ o → RepSL F θ vs xs → ∀ Q : VK, (∀ w, RepS F θ w z → Q w H) → r vs H Q) (p : P z o) : AN B r xs o P := fun F H θ σ ρ vs k r1 Q q =>
  h F H θ σ ρ vs k r1 Q fun w rw' => q w z F H θ o (Tw.refl F H θ) k rw' p
theorem rep_int {F : Hp} {v : V} {i : Int} (h : Rep F v (.int i)) : v = .int i := by cases h; rfl
theorem rep_str {F : Hp} {v : V} {i : Str} (h : Rep F v (.str i)) : v = .str i := by cases h; rfl
theorem rep_bl {F : Hp} {v : V} {i : Bool} (h : Rep F v (.bl i)) : v = .bl i := by cases h; rfl
theorem rep_non {F : Hp} {v : V} (h : Rep F v .non) : v = .non := by cases h; rfl
theorem i_I0 {g : Int → Int → Int} {i j : Int} (p : P (.da (.int (g i j))) o) : A2 B (rI0 fun i j => .int (g i j)) (.da (.int i)) (.da (.int j)) o P :=
  A2.of (z := .da (.int (g i j))) (fun F H θ σ ρ v u k r1 r2 Q q => ⟨i, j, rep_int r1, rep_int r2, q _ (Rep.int _)⟩) p
theorem i_I0b {g : Int → Int → Bool} {i j : Int} (p : P (.da (.bl (g i j))) o) : A2 B (rI0 fun i j => .bl (g i j)) (.da (.int i)) (.da (.int j)) o P :=
  A2.of (z := .da (.bl (g i j))) (fun F H θ σ ρ v u k r1 r2 Q q => ⟨i, j, rep_int r1, rep_int r2, q _ (Rep.bl _)⟩) p
theorem i_I {C : Int → Int → Prop} {g : Int → Int → Int} {i j : Int} (c : C i j) (p : P (.da (.int (g i j))) o) : A2 B (rI C fun i j => .int (g i j)) (.da (.int i)) (.da (.int j)) o P :=
  A2.of (z := .da (.int (g i j))) (fun F H θ σ ρ v u k r1 r2 Q q => ⟨i, j, rep_int r1, rep_int r2, c, q _ (Rep.int _)⟩) p
theorem A2.or1 {r r' : R2} {x y : Sl} (h : A2 B r x y o P) : A2 B (fun x y H Q => r x y H Q ∨ r' x y H Q) x y o P := fun F H θ σ ρ v u k r1 r2 Q q => .inl (h F H θ σ ρ v u k r1 r2 Q q)
theorem A2.or2 {r r' : R2} {x y : Sl} (h : A2 B r' x y o P) : A2 B (fun x y H Q => r x y H Q ∨ r' x y H Q) x y o P := fun F H θ σ ρ v u k r1 r2 Q q => .inr (h F H θ σ ρ v u k r1 r2 Q q)
theorem o_add {i j : Int} (p : P (.da (.int (i + j))) o) : A2 B rAddA (.da (.int i)) (.da (.int j)) o P := A2.or1 (i_I0 p)
theorem o_addS {i j : Str} (l : i.length + j.length ≤ sizeLine) (p : P (.da (.str (i ++ j))) o) : A2 B rAddA (.da (.str i)) (.da (.str j)) o P := A2.or2 (A2.or1 (
  A2.of (z := .da (.str (i ++ j))) (fun F H θ σ ρ v u k r1 r2 Q q => ⟨i, j, rep_str r1, rep_str r2, l, q _ (Rep.str _)⟩) p))
theorem o_sub {i j : Int} (p : P (.da (.int (i - j))) o) : A2 B rSubA (.da (.int i)) (.da (.int j)) o P := i_I0 p
theorem o_mul {i j : Int} (c : CMul i j) (p : P (.da (.int (i * j))) o) : A2 B rMulA (.da (.int i)) (.da (.int j)) o P := A2.or1 (i_I c p)
theorem o_mod {i j : Int} (c : 0 < j) (p : P (.da (.int (i % j))) o) : A2 B rModA (.da (.int i)) (.da (.int j)) o P := i_I c p
theorem o_div {i j : Int} (c : CDivW i j) (p : P (.da (.int (i / j))) o) : A2 B rDivA (.da (.int i)) (.da (.int j)) o P := i_I c p
theorem o_pow {i j : Int} (c : CPow i j) (p : P (.da (.int (i ^ j.toNat))) o) : A2 B rPowA (.da (.int i)) (.da (.int j)) o P := i_I c p
theorem o_and {i j : Int} (p : P (.da (.int (Builtin.bitAnd i j))) o) : A2 B rAndA (.da (.int i)) (.da (.int j)) o P := i_I0 p
theorem o_bor {i j : Int} (p : P (.da (.int (Builtin.bitOr i j))) o) : A2 B rBorA (.da (.int i)) (.da (.int j)) o P := i_I0 p
theorem o_shl {i j : Int} (c : CPow i j) (p : P (.da (.int (i * 2 ^ j.toNat))) o) : A2 B rShlA (.da (.int i)) (.da (.int j)) o P := i_I c p
theorem o_neg {i : Int} (p : P (.da (.int (-i))) o) : A1 B rUnA (.da (.int i)) o P := A1.of (z := .da (.int (-i))) (fun F H θ σ ρ v k r1 Q q => ⟨i, rep_int r1, q _ (Rep.int _)⟩) p
theorem o_lt {i j : Int} (p : P (.da (.bl (decide (i < j)))) o) : A2 B rLtA (.da (.int i)) (.da (.int j)) o P := A2.or1 (i_I0b p)
theorem o_le {i j : Int} (p : P (.da (.bl (decide (i ≤ j)))) o) : A2 B rLeA (.da (.int i)) (.da (.int j)) o P := i_I0b p
theorem o_gt {i j : Int} (p : P (.da (.bl (decide (j < i)))) o) : A2 B rGtA (.da (.int i)) (.da (.int j)) o P := i_I0b p
theorem o_ge {i j : Int} (p : P (.da (.bl (decide (j ≤ i)))) o) : A2 B rGeA (.da (.int i)) (.da (.int j)) o P := i_I0b p
/-- is None -/
def isN : Sl → Bool
  | .da .non => true
  | _ => false
theorem RepS.isN {F : Hp} {θ : List Addr} {v : V} {s : Sl} (h : RepS F θ v s) (hr : ∀ w, s ≠ .da (.raw w)) : decide (v = .non) = AB.isN s := by
  cases s with
  | ow j => obtain ⟨a, rfl, _⟩ := h; rfl
  | da d =>
    cases h with
    | raw v => exact absurd rfl (hr v)
    | _ => rfl
theorem o_is {x : Sl} (hr : ∀ w, x ≠ .da (.raw w)) (p : P (.da (.bl (isN x))) o) : A2 B rIsA x (.da .non) o P :=
  A2.of (z := .da (.bl (isN x))) (fun F H θ σ ρ v u k r1 r2 Q q => ⟨rep_non r2, q _ (by rw [r1.isN hr]; exact Rep.bl _)⟩) p
theorem o_isNot {x : Sl} (hr : ∀ w, x ≠ .da (.raw w)) (p : P (.da (.bl (!isN x))) o) : A2 B rIsNotA x (.da .non) o P :=
  A2.of (z := .da (.bl (!isN x))) (fun F H θ σ ρ v u k r1 r2 Q q => ⟨rep_non r2, q _ (by rw [r1.isN hr]; exact Rep.bl _)⟩) p
theorem Dp.mono {F H : Hp} (e : Ex F H) {v : V} {d : D} (h : Rep F v d) (hp : d.py.plain = true) : Dp K H v d.py := (h.mono e).dp hp
theorem o_eq {x y : D} (hx : x.py.plain = true) (hy : y.py.plain = true) (hm : min x.py.depth y.py.depth ≤ 60) (p : P (.da (.bl (PyData.eqv x.py y.py))) o) : A2 B (rEqP K) (.da x) (.da y) o P :=
  A2.of (z := .da (.bl _)) (fun F H θ σ ρ v u k r1 r2 Q q => ⟨_, _, Dp.mono k.fh r1 hx, Dp.mono k.fh r2 hy, hx, hy, hm, q _ (Rep.bl _)⟩) p
theorem o_ne {x y : D} (hx : x.py.plain = true) (hy : y.py.plain = true) (hm : min x.py.depth y.py.depth ≤ 60) (p : P (.da (.bl (!PyData.eqv x.py y.py))) o) : A2 B (rNeP K) (.da x) (.da y) o P :=
  A2.of (z := .da (.bl _)) (fun F H θ σ ρ v u k r1 r2 Q q => ⟨_, _, Dp.mono k.fh r1 hx, Dp.mono k.fh r2 hy, hx, hy, hm, q _ (Rep.bl _)⟩) p
/-- in a list, in a tuple -/
theorem o_inL {x : D} {ds : List D} (hx : x.py.plain = true) (hy : PyData.plainAll (D.pyL ds) = true) (hm : x.py.depth ≤ 60) (p : P (.da (.bl ((D.pyL ds).any fun z => PyData.eqv z x.py))) o) : A2 B (rInA K) (.da x) (.da (.lst ds)) o P := A2.or1 (
  A2.of (z := .da (.bl _)) (fun F H θ σ ρ v u k r1 r2 Q q => ⟨_, _, Dp.mono k.fh r1 hx, .inl (by have := Dp.mono (K := K) k.fh r2 (by simpa [D.py, PyData.plain] using hy); rw [D.py] at this; exact this), hx, hy, hm, q _ (Rep.bl _)⟩) p)
theorem o_inT {x : D} {ds : List D} (hx : x.py.plain = true) (hy : PyData.plainAll (D.pyL ds) = true) (hm : x.py.depth ≤ 60) (p : P (.da (.bl ((D.pyL ds).any fun z => PyData.eqv z x.py))) o) : A2 B (rInA K) (.da x) (.da (.tup ds)) o P := A2.or1 (
  A2.of (z := .da (.bl _)) (fun F H θ σ ρ v u k r1 r2 Q q => ⟨_, _, Dp.mono k.fh r1 hx, .inr (by have := Dp.mono (K := K) k.fh r2 (by simpa [D.py, PyData.plain] using hy); rw [D.py] at this; exact this), hx, hy, hm, q _ (Rep.bl _)⟩) p)
theorem o_notInL {x : D} {ds : List D} (hx : x.py.plain = true) (hy : PyData.plainAll (D.pyL ds) = true) (hm : x.py.depth ≤ 60) (p : P (.da (.bl (!((D.pyL ds).any fun z => PyData.eqv z x.py)))) o) : A2 B (rNotInA K) (.da x) (.da (.lst ds)) o P := A2.or1 (
  A2.of (z := .da (.bl _)) (fun F H θ σ ρ v u k r1 r2 Q q => ⟨_, _, Dp.mono k.fh r1 hx, .inl (by have := Dp.mono (K := K) k.fh r2 (by simpa [D.py, PyData.plain] using hy); rw [D.py] at this; exact this), hx, hy, hm, q _ (Rep.bl _)⟩) p)
theorem o_notInT {x : D} {ds : List D} (hx : x.py.plain = true) (hy : PyData.plainAll (D.pyL ds) = true) (hm : x.py.depth ≤ 60) (p : P (.da (.bl (!((D.pyL ds).any fun z => PyData.eqv z x.py)))) o) : A2 B (rNotInA K) (.da x) (.da (.tup ds)) o P := A2.or1 (
  A2.of (z := .da (.bl _)) (fun F H θ σ ρ v u k r1 r2 Q q => ⟨_, _, Dp.mono k.fh r1 hx, .inr (by have := Dp.mono (K := K) k.fh r2 (by simpa [D.py, PyData.plain] using hy); rw [D.py] at this; exact this), hx, hy, hm, q _ (Rep.bl _)⟩) p)
/-- what may be read as a list -/
def LL (o : O) : Sl → List Sl → Prop
  | .da (.lst ds), ss => ss = ds.map Sl.da
  | .ow j, ss => o[j]? = some (.lst ss)
  | _, _ => False
theorem LL.at {F H : Hp} {θ : List Addr} {σ : St} {v : V} {s : Sl} {ss : List Sl} (h : LL o s ss) (k : Ok B F H θ σ ρ o) (r : RepS F θ v s) : ∃ a xs, v = .ref a ∧ H a = some (.lst xs) ∧ RepSL F θ xs ss := by
  cases s with
  | ow j =>
    obtain ⟨a, rfl, ha⟩ := r
    obtain ⟨b, hb, xs, h1, h2⟩ := k.own h
    rw [ha] at hb; cases hb
    exact ⟨a, xs, rfl, h1, h2⟩
  | da d =>
    cases r with
    | @lst a xs ds e rl =>
      obtain rfl : ss = ds.map Sl.da := h
      exact ⟨a, xs, rfl, k.fh a _ e, all_da rl⟩
    | _ => exact h.elim
theorem RepSL.get {F : Hp} {θ : List Addr} : ∀ {vs : List V} {ss : List Sl} {i : Nat} {s : Sl}, RepSL F θ vs ss → ss[i]? = some s → ∃ v, vs[i]? = some v ∧ RepS F θ v s
  | _, _, i, _, .nil, e => by simp at e
  | _, _, 0, _, .cons h _, e => by simp at e; subst e; exact ⟨_, rfl, h⟩
  | _, _, i + 1, _, .cons _ r, e => by
    have e' := e
    simp only [List.getElem?_cons_succ] at e' ⊢
    exact RepSL.get r e'
theorem RepSL.app {F : Hp} {θ : List Addr} {vs ws : List V} {ss ts : List Sl} : RepSL F θ vs ss → RepSL F θ ws ts → RepSL F θ (vs ++ ws) (ss ++ ts)
  | .nil, r => r
  | .cons h t, r => .cons h (RepSL.app t r)
theorem atI_eq {α : Type} {xs : List α} {i : Int} {v : α} (h : atI xs i = some v) : ∃ j, ixN xs.length i = some j ∧ xs[j]? = some v := by
  unfold atI at h
  cases e : ixN xs.length i with
  | none => rw [e] at h; cases h
  | some j => rw [e] at h; exact ⟨j, rfl, h⟩
theorem atI_of {α : Type} {xs : List α} {i : Int} {j : Nat} {v : α} (h : ixN xs.length i = some j) (h2 : xs[j]? = some v) : atI xs i = some v := by
  unfold atI
  rw [h]
  exact h2
theorem o_ixL {x : Sl} {ss : List Sl} {i : Int} {s : Sl} (h : LL o x ss) (e : atI ss i = some s) (p : P s o) : A2 B (rIxA K) x (.da (.int i)) o P := A2.or1 (A2.or1 (
  A2.of (z := s) (fun F H θ σ ρ v u k r1 r2 Q q => by
    obtain ⟨a, xs, rfl, ha, rl⟩ := h.at k r1
    obtain ⟨j, e1, e2⟩ := atI_eq e
    obtain ⟨w, h1, h2⟩ := rl.get e2
    exact ⟨a, xs, i, w, rfl, rep_int r2, SqL.of ha, atI_of (by rw [Paired.len rl]; exact e1) h1, q w h2⟩) p))
theorem o_ix {ds : List D} {i : Int} {d : D} (e : atI ds i = some d) (p : P (.da d) o) : A2 B (rIxA K) (.da (.lst ds)) (.da (.int i)) o P :=
  o_ixL (ss := ds.map Sl.da) rfl (by
    obtain ⟨j, e1, e2⟩ := atI_eq e
    exact atI_of (by rw [List.length_map]; exact e1) (by rw [List.getElem?_map, e2]; rfl)) p
theorem o_ixT {ds : List D} {i : Int} {d : D} (e : atI ds i = some d) (p : P (.da d) o) : A2 B (rIxA K) (.da (.tup ds)) (.da (.int i)) o P := A2.or1 (A2.or2 (A2.or1 (
  A2.of (z := .da d) (fun F H θ σ ρ v u k r1 r2 Q q => by
    cases r1 with
    | @tup a xs _ ea rl =>
      obtain ⟨j, e1, e2⟩ := atI_eq e
      obtain ⟨w, h1, h2⟩ := rl.got e2
      exact ⟨a, xs, i, w, rfl, rep_int r2, SqT.of (k.fh a _ ea), atI_of (by rw [rl.len]; exact e1) h1, q w h2⟩) p)))
theorem o_ixS {z : Str} {i : Int} {c : Nat} (hl : z.length ≤ sizeLine) (e : atI z.cps.toList i = some c) (p : P (.da (.str ⟨#[c]⟩)) o) : A2 B (rIxA K) (.da (.str z)) (.da (.int i)) o P := A2.or1 (A2.or2 (A2.or2 (
  A2.of (z := .da (.str ⟨#[c]⟩)) (fun F H θ σ ρ v u k r1 r2 Q q => ⟨z, i, c, rep_str r1, rep_int r2, hl, e, q _ (Rep.str _)⟩) p)))
/-! dicts -/
def keyD : Key → D
  | .inl i => .int i
  | .inr x => .str x
theorem rep_key {F : Hp} {v : V} {k : Key} (h : Rep F v (keyD k)) : v = kV k := by
  cases k with
  | inl i => exact rep_int h
  | inr x => exact rep_str h
def getK {α : Type} (l : List (Key × α)) (k : Key) : Option α := (l.find? fun kv => decide (kv.1 = k)).map (·.2)
theorem RepK.get {F : Hp} {k : Key} : ∀ {ks : List (Key × V)} {ds : List (Key × D)}, RepK F ks ds → (∀ d, getK ds k = some d → ∃ v, valV ks k = some v ∧ Rep F v d) ∧ (getK ds k = none → valV ks k = none)
  | _, _, .nil => ⟨fun d h => (by cases h), fun _ => rfl⟩
  | _, _, @RepK.cons _ k' v vs d ds h r => by
    by_cases e : k' = k
    · have e1 : getK ((k', d) :: ds) k = some d := by simp [getK, e]
      have e2 : valV ((k', v) :: vs) k = some v := by simp [valV, e]
      rw [e1, e2]
      exact ⟨fun d' q => by cases q; exact ⟨v, rfl, h⟩, fun q => by cases q⟩
    · have e1 : getK ((k', d) :: ds) k = getK ds k := by simp [getK, e]
      have e2 : valV ((k', v) :: vs) k = valV vs k := by simp [valV, e]
      rw [e1, e2]
      exact RepK.get r
theorem RepSK.get {F : Hp} {θ : List Addr} {k : Key} : ∀ {ks : List (Key × V)} {ds : List (Key × Sl)}, RepSK F θ ks ds → (∀ d, getK ds k = some d → ∃ v, valV ks k = some v ∧ RepS F θ v d) ∧ (getK ds k = none → valV ks k = none)
  | _, _, .nil => ⟨fun d h => (by cases h), fun _ => rfl⟩
  | (k', v) :: vs, (k'', d) :: ds, .cons ⟨e0, h⟩ r => by
    obtain rfl : k' = k'' := e0
    by_cases e : k' = k
    · have e1 : getK ((k', d) :: ds) k = some d := by simp [getK, e]
      have e2 : valV ((k', v) :: vs) k = some v := by simp [valV, e]
      rw [e1, e2]
      exact ⟨fun d' q => by cases q; exact ⟨v, rfl, h⟩, fun q => by cases q⟩
    · have e1 : getK ((k', d) :: ds) k = getK ds k := by simp [getK, e]
      have e2 : valV ((k', v) :: vs) k = valV vs k := by simp [valV, e]
      rw [e1, e2]
      exact RepSK.get r
theorem o_ixD {ds : List (Key × D)} {k : Key} {d : D} (e : getK ds k = some d) (p : P (.da d) o) : A2 B (rIxA K) (.da (.dic ds)) (.da (keyD k)) o P := A2.or2 (
  A2.of (z := .da d) (fun F H θ σ ρ v u ok r1 r2 Q q => by
    cases r1 with
    | @dic a ks _ ea rk =>
      obtain ⟨w, h1, h2⟩ := (rk.get (k := k)).1 d e
      have ey := rep_key r2
      subst ey
      exact ⟨a, w, rfl, by rw [← h1]; exact DGet.k (ok.fh a _ ea), q w h2⟩) p)
theorem o_ixDO {j : Nat} {ds : List (Key × Sl)} {k : Key} {d : Sl} (h : o[j]? = some (.dic ds)) (e : getK ds k = some d) (p : P d o) : A2 B (rIxA K) (.ow j) (.da (keyD k)) o P := A2.or2 (
  A2.of (z := d) (fun F H θ σ ρ v u ok r1 r2 Q q => by
    obtain ⟨a, rfl, ha⟩ := r1
    obtain ⟨b, hb, ks, h1, rk⟩ := ok.own h
    rw [ha] at hb; cases hb
    obtain ⟨w, h3, h4⟩ := (rk.get (k := k)).1 d e
    have ey := rep_key r2
    subst ey
    exact ⟨a, w, rfl, by rw [← h3]; exact DGet.k h1, q w h4⟩) p)
theorem o_inD {ds : List (Key × D)} {k : Key} (p : P (.da (.bl (getK ds k).isSome)) o) : A2 B (rInA K) (.da (keyD k)) (.da (.dic ds)) o P := A2.or2 (A2.or1 (
  A2.of (z := .da (.bl (getK ds k).isSome)) (fun F H θ σ ρ v u ok r1 r2 Q q => by
    cases r2 with
    | @dic a ks _ ea rk =>
      have ey := rep_key r1
      subst ey
      refine ⟨a, _, rfl, DGet.k (ok.fh a _ ea), ?_⟩
      have : (valV ks k).isSome = (getK ds k).isSome := by
        cases e : getK ds k with
        | none => rw [(rk.get (k := k)).2 e] <;> rfl
        | some d => obtain ⟨w, h1, _⟩ := (rk.get (k := k)).1 d e; rw [h1]; rfl
      rw [this]
      exact q _ (Rep.bl _)) p))
theorem o_notInD {ds : List (Key × D)} {k : Key} (p : P (.da (.bl (!(getK ds k).isSome))) o) : A2 B (rNotInA K) (.da (keyD k)) (.da (.dic ds)) o P := A2.or2 (A2.or1 (
  A2.of (z := .da (.bl (!(getK ds k).isSome))) (fun F H θ σ ρ v u ok r1 r2 Q q => by
    cases r2 with
    | @dic a ks _ ea rk =>
      have ey := rep_key r1
      subst ey
      refine ⟨a, _, rfl, DGet.k (ok.fh a _ ea), ?_⟩
      have : (valV ks k).isSome = (getK ds k).isSome := by
        cases e : getK ds k with
        | none => rw [(rk.get (k := k)).2 e] <;> rfl
        | some d => obtain ⟨w, h1, _⟩ := (rk.get (k := k)).1 d e; rw [h1]; rfl
      rw [this]
      exact q _ (Rep.bl _)) p))
theorem o_inDO {j : Nat} {ds : List (Key × Sl)} {k : Key} (h : o[j]? = some (.dic ds)) (p : P (.da (.bl (getK ds k).isSome)) o) : A2 B (rInA K) (.da (keyD k)) (.ow j) o P := A2.or2 (A2.or1 (
  A2.of (z := .da (.bl (getK ds k).isSome)) (fun F H θ σ ρ v u ok r1 r2 Q q => by
    obtain ⟨a, rfl, ha⟩ := r2
    obtain ⟨b, hb, ks, h1, rk⟩ := ok.own h
    rw [ha] at hb; cases hb
    have ey := rep_key r1
    subst ey
    refine ⟨a, _, rfl, DGet.k h1, ?_⟩
    have : (valV ks k).isSome = (getK ds k).isSome := by
      cases e : getK ds k with
      | none => rw [(rk.get (k := k)).2 e] <;> rfl
      | some d => obtain ⟨w, h1, _⟩ := (rk.get (k := k)).1 d e; rw [h1]; rfl
    rw [this]
    exact q _ (Rep.bl _)) p))
theorem o_notInDO {j : Nat} {ds : List (Key × Sl)} {k : Key} (h : o[j]? = some (.dic ds)) (p : P (.da (.bl (!(getK ds k).isSome))) o) : A2 B (rNotInA K) (.da (keyD k)) (.ow j) o P := A2.or2 (A2.or1 (
  A2.of (z := .da (.bl (!(getK ds k).isSome))) (fun F H θ σ ρ v u ok r1 r2 Q q => by
    obtain ⟨a, rfl, ha⟩ := r2
    obtain ⟨b, hb, ks, h1, rk⟩ := ok.own h
    rw [ha] at hb; cases hb
    have ey := rep_key r1
    subst ey
    refine ⟨a, _, rfl, DGet.k h1, ?_⟩
    have : (valV ks k).isSome = (getK ds k).isSome := by
      cases e : getK ds k with
      | none => rw [(rk.get (k := k)).2 e] <;> rfl
      | some d => obtain ⟨w, h1, _⟩ := (rk.get (k := k)).1 d e; rw [h1]; rfl
    rw [this]
    exact q _ (Rep.bl _)) p))
/-! built-ins -/
theorem n_len {x : Sl} {ss : List Sl} (h : LL o x ss) (p : P (.da (.int ss.length)) o) : AN B (rLenA K) [x] o P :=
  AN.of (z := .da (.int ss.length)) (fun F H θ σ ρ vs k r Q q => by
    cases r with
    | cons r rs =>
      cases rs
      obtain ⟨a, xs, rfl, ha, rl⟩ := h.at k r
      exact .inl ⟨.ref a, xs.length, rfl, .inl ⟨xs, SqL.of ha, rfl⟩, q _ (by rw [Paired.len rl]; exact Rep.int _)⟩) p
theorem n_lenT {ds : List D} (p : P (.da (.int ds.length)) o) : AN B (rLenA K) [.da (.tup ds)] o P :=
  AN.of (z := .da (.int ds.length)) (fun F H θ σ ρ vs k r Q q => by
    cases r with
    | cons r rs =>
      cases rs
      cases r with
      | @tup a xs _ ea rl => exact .inl ⟨.ref a, xs.length, rfl, .inr ⟨xs, SqT.of (k.fh a _ ea), rfl⟩, q _ (by rw [rl.len]; exact Rep.int _)⟩) p
theorem n_lenS {z : Str} (hl : z.length ≤ sizeLine) (p : P (.da (.int z.length)) o) : AN B (rLenA K) [.da (.str z)] o P :=
  AN.of (z := .da (.int z.length)) (fun F H θ σ ρ vs k r Q q => by
    cases r with
    | cons r rs =>
      cases rs
      have e := rep_str r
      subst e
      exact .inl ⟨.str z, z.length, rfl, ⟨hl, rfl⟩, q _ (Rep.int _)⟩) p
theorem n_str {i : Int} (h : i.natAbs.log2 < 1920) (p : P (.da (.str (toString i))) o) : AN B rStrI [.da (.int i)] o P :=
  AN.of (z := .da (.str (toString i))) (fun F H θ σ ρ vs k r Q q => by
    cases r with
    | cons r rs =>
      cases rs
      have e := rep_int r
      subst e
      exact ⟨i, rfl, h, q _ (Rep.str _)⟩) p
theorem n_int {i : Int} (p : P (.da (.int i)) o) : AN B rIntI [.da (.int i)] o P :=
  AN.of (z := .da (.int i)) (fun F H θ σ ρ vs k r Q q => by
    cases r with
    | cons r rs =>
      cases rs
      have e := rep_int r
      subst e
      exact .inl ⟨i, rfl, q _ (Rep.int _)⟩) p
theorem n_abs {i : Int} (p : P (.da (.int (if i < 0 then -i else i))) o) : AN B rAbsI [.da (.int i)] o P :=
  AN.of (z := .da (.int (if i < 0 then -i else i))) (fun F H θ σ ρ vs k r Q q => by
    cases r with
    | cons r rs =>
      cases rs
      have e := rep_int r
      subst e
      exact ⟨i, rfl, q _ (Rep.int _)⟩) p
theorem n_max2 {i j : Int} (p : P (.da (.int (if j > i then j else i))) o) : AN B (rMaxA K) [.da (.int i), .da (.int j)] o P :=
  AN.of (z := .da (.int (if j > i then j else i))) (fun F H θ σ ρ vs k r Q q => by
    cases r with
    | cons r rs =>
      cases rs with
      | cons r' rs =>
        cases rs
        have e := rep_int r
        have e' := rep_int r'
        subst e e'
        exact .inl ⟨i, j, rfl, q _ (Rep.int _)⟩) p
theorem n_min2 {i j : Int} (p : P (.da (.int (if j < i then j else i))) o) : AN B (rMinA K) [.da (.int i), .da (.int j)] o P :=
  AN.of (z := .da (.int (if j < i then j else i))) (fun F H θ σ ρ vs k r Q q => by
    cases r with
    | cons r rs =>
      cases rs with
      | cons r' rs =>
        cases rs
        have e := rep_int r
        have e' := rep_int r'
        subst e e'
        exact .inl ⟨i, j, rfl, q _ (Rep.int _)⟩) p
theorem ints_of {F : Hp} {θ : List Addr} : ∀ {ns : List Int} {vs : List V}, RepSL F θ vs (ns.map fun i => Sl.da (.int i)) → vs = ns.map V.int
  | [], [], _ => rfl
  | n :: ns, v :: vs, .cons h r => by rw [rep_int h, ints_of r]; rfl
theorem n_maxL {x : Sl} {ns : List Int} (h : LL o x (ns.map fun i => Sl.da (.int i))) (h0 : 0 < ns.length) (p : ∀ m, m ∈ ns → (∀ y, y ∈ ns → y ≤ m) → P (.da (.int m)) o) : AN B (rMaxA K) [x] o P := fun F H θ σ ρ vs k r Q q => by
  cases r with
  | cons r rs =>
    cases rs
    obtain ⟨a, xs, rfl, ha, rl⟩ := h.at k r
    have e := ints_of rl
    subst e
    exact .inr (.inl ⟨a, ns, rfl, SqL.of ha, h0, fun m h1 h2 => q _ (.da (.int m)) F H θ o (Tw.refl F H θ) k (RepS.dat (Rep.int m)) (p m h1 h2)⟩)
theorem n_minL {x : Sl} {ns : List Int} (h : LL o x (ns.map fun i => Sl.da (.int i))) (h0 : 0 < ns.length) (p : ∀ m, m ∈ ns → (∀ y, y ∈ ns → m ≤ y) → P (.da (.int m)) o) : AN B (rMinA K) [x] o P := fun F H θ σ ρ vs k r Q q => by
  cases r with
  | cons r rs =>
    cases rs
    obtain ⟨a, xs, rfl, ha, rl⟩ := h.at k r
    have e := ints_of rl
    subst e
    exact .inr (.inl ⟨a, ns, rfl, SqL.of ha, h0, fun m h1 h2 => q _ (.da (.int m)) F H θ o (Tw.refl F H θ) k (RepS.dat (Rep.int m)) (p m h1 h2)⟩)
theorem n_max3 {i j l : Int} (p : ∀ m : Int, i ≤ m → j ≤ m → l ≤ m → (m = i ∨ m = j ∨ m = l) → P (.da (.int m)) o) : AN B (rMaxA K) [.da (.int i), .da (.int j), .da (.int l)] o P := fun F H θ σ ρ vs k r Q q => by
  cases r with
  | cons r rs =>
    cases rs with
    | cons r' rs =>
      cases rs with
      | cons r'' rs =>
        cases rs
        have e := rep_int r
        have e' := rep_int r'
        have e'' := rep_int r''
        subst e e' e''
        refine .inr (.inr ⟨_, _, _, .int (if (if i < j then j else i) < l then l else if i < j then j else i), rfl, ?_, q _ (.da (.int _)) F H θ o (Tw.refl F H θ) k (RepS.dat (Rep.int _)) (p _ ?_ ?_ ?_ ?_)⟩)
        · unfold nuMax3 nuMax2 nuLt
          by_cases h1 : i < j
          · simp only [nuCB, h1, decide_true, Option.map_some, if_true, Option.bind_some]
            by_cases h2 : j < l <;> simp [nuCB, h2]
          · simp only [nuCB, h1, decide_false, Option.map_some, Option.bind_some, if_false]
            by_cases h2 : i < l <;> simp [nuCB, h2]
        · split <;> split at * <;> omega
        · split <;> split at * <;> omega
        · split <;> split at * <;> omega
        · split <;> split at * <;> omega
/-- list(x): as data, as an own object -/
theorem n_list {x : Sl} {ds : List D} (h : LL o x (ds.map Sl.da)) (p : P (.da (.lst ds)) o) : AN B (rListA K) [x] o P := fun F H θ σ ρ vs k r Q q => by
  cases r with
  | cons r rs =>
    cases rs
    obtain ⟨a, xs, rfl, ha, rl⟩ := h.at k r
    refine ⟨a, xs, rfl, .inl (SqL.of ha), fun l n => ?_⟩
    obtain ⟨t2, k2⟩ := k.put (u := .lst xs) n
    exact q _ _ _ _ _ _ t2.w k2 (RepS.dat (Rep.lst upd_same ((da_all rl).mono t2.ff))) p
theorem n_listO {x : Sl} {ss : List Sl} (h : LL o x ss) (p : P (.ow o.length) (o ++ [.lst ss])) : AN B (rListA K) [x] o P := fun F H θ σ ρ vs k r Q q => by
  cases r with
  | cons r rs =>
    cases rs
    obtain ⟨a, xs, rfl, ha, rl⟩ := h.at k r
    refine ⟨a, xs, rfl, .inl (SqL.of ha), fun l n => ?_⟩
    obtain ⟨t2, k2⟩ := k.lay (u := .lst xs) (w := .lst ss) n ⟨xs, upd_same, rl.mono (Ex.refl _) ⟨[l], rfl⟩⟩
    exact q _ _ _ _ _ _ t2.w k2 (RepS.own (by rw [← k.len, List.getElem?_append_right (Nat.le_refl _)]; simp)) p
end
end AB

set_option Elab.async false
set_option linter.all false
set_option maxRecDepth 100000
set_option maxHeartbeats 4000000
set_option autoImplicit false
namespace AB
open PySem L2 PySem.Spec PyProof.Rows
/-! ### loops -/
section
variable {B : Base} {ρ : R} {o : O} {P : Sl → O → Prop} {K : PySem.W.Frag} {D0 : AD} {tb : TS} {g : TG}
theorem s_forL {tl : TE} (h : AE B tl ρ o fun x o1 => ∃ ss, LL o1 x ss ∧ ∃ Pv : Nat → R → O → Prop, Pv 0 ρ o1 ∧ (∀ (i : Nat) ρ' o', i ≤ ss.length → Pv i ρ' o' → LL o' x ss) ∧
    (∀ (i : Nat) s ρ' o', ss[i]? = some s → Pv i ρ' o' → AG B g s ρ' o' fun ρ2 o2 => WS B tb { D0 with nx := Pv (i + 1), ct := Pv (i + 1), bk := D0.nx } ρ2 o2) ∧ ∀ ρ' o', Pv ss.length ρ' o' → D0.nx ρ' o') :
    WS B (tFor (iSq K tl) g tb) D0 ρ o := by
  intro F H θ σ k E hE
  refine h F H θ σ k _ fun v x F1 H1 θ1 o1 t1 k1 r1 p1 => ?_
  obtain ⟨ss, hL, Pv, h0, hl, hs, hd⟩ := p1
  obtain ⟨a, xs, rfl, ha, rl⟩ := hL.at k1 r1
  refine .inl ⟨a, rfl, ⟨xs, SqL.of ha⟩, ?_⟩
  refine ⟨fun i m σ' H' => m = ss.length - i ∧ i ≤ ss.length ∧ ∃ F' θ' ρ' o', Tw F1 H1 θ1 F' H' θ' ∧ Ok B F' H' θ' σ' ρ' o' ∧ Pv i ρ' o', ⟨_, rfl, Nat.zero_le _, F1, θ1, ρ, o1, Tw.refl F1 H1 θ1, k1, h0⟩, ?_⟩
  intro i m σ' H' hw
  obtain ⟨rfl, hi, F', θ', ρ', o', t', k', p⟩ := hw
  obtain ⟨a', xs', e, ha', rl'⟩ := (hl i ρ' o' hi p).at k' (r1.mono t'.ff t'.pre)
  cases e
  by_cases hlt : i < ss.length
  · obtain ⟨w, hw1, hw2⟩ := rl'.get (List.getElem?_eq_getElem hlt)
    refine .inr ⟨⟨xs', w, SqL.of ha', hw1⟩, fun σ2 H2 => ∃ F2 θ2 ρ2 o2, Tw F1 H1 θ1 F2 H2 θ2 ∧ Ok B F2 H2 θ2 σ2 ρ2 o2 ∧ Pv (i + 1) ρ2 o2, fun σ2 H2 n => ⟨_, by omega, rfl, hlt, n⟩, fun y H'' z => ?_⟩
    obtain ⟨e1, z⟩ := z
    subst e1
    have e2 := z xs' (SqL.of ha')
    rw [hw1] at e2
    obtain rfl : w = y := Option.some.inj e2
    refine hs i _ ρ' o' (List.getElem?_eq_getElem hlt) p F' H'' θ' σ' w k' hw2 _ fun F2 H2 θ2 σ2 ρ2 o2 t2 k2 p2 => ?_
    refine p2 F2 H2 θ2 σ2 k2 _ ⟨fun F3 H3 θ3 σ3 ρ3 o3 t3 k3 p3 => ⟨F3, θ3, ρ3, o3, (t'.trans t2).trans t3, k3, p3⟩, ?_, ?_, fun F3 H3 θ3 σ3 ρ3 o3 t3 k3 p3 => ⟨F3, θ3, ρ3, o3, (t'.trans t2).trans t3, k3, p3⟩⟩
    · exact fun F3 H3 θ3 σ3 ρ3 o3 v s t3 k3 r3 p3 => hE.rt F3 H3 θ3 σ3 ρ3 o3 v s (((t1.trans t').trans t2).trans t3) k3 r3 p3
    · exact fun F3 H3 θ3 σ3 ρ3 o3 t3 k3 p3 => hE.nx F3 H3 θ3 σ3 ρ3 o3 (((t1.trans t').trans t2).trans t3) k3 p3
  · have e : i = ss.length := by omega
    subst e
    exact .inl ⟨⟨xs', SqL.of ha', by rw [Paired.len rl']; exact Nat.le_refl _⟩, hE.nx F' H' θ' σ' ρ' o' (t1.trans t') k' (hd ρ' o' p)⟩
/-- over a list of data -/
theorem s_for {tl : TE} (h : AE B tl ρ o fun x o1 => ∃ ds, x = .da (.lst ds) ∧ ∃ Pv : Nat → R → O → Prop, Pv 0 ρ o1 ∧
    (∀ (i : Nat) d ρ' o', ds[i]? = some d → Pv i ρ' o' → AG B g (.da d) ρ' o' fun ρ2 o2 => WS B tb { D0 with nx := Pv (i + 1), ct := Pv (i + 1), bk := D0.nx } ρ2 o2) ∧ ∀ ρ' o', Pv ds.length ρ' o' → D0.nx ρ' o') :
    WS B (tFor (iSq K tl) g tb) D0 ρ o := s_forL (h.mono fun x o1 p => by
  obtain ⟨ds, rfl, Pv, h0, hs, hd⟩ := p
  refine ⟨ds.map Sl.da, rfl, Pv, h0, fun _ _ _ _ _ => rfl, fun i s ρ' o' e p => ?_, fun ρ' o' p => hd ρ' o' (by rw [List.length_map] at p; exact p)⟩
  rw [List.getElem?_map] at e
  cases e' : ds[i]? with
  | none => rw [e'] at e; cases e
  | some d =>
    rw [e'] at e
    cases e
    exact hs i d ρ' o' e' p)
/-- over a tuple of data -/
theorem s_forT {tl : TE} (h : AE B tl ρ o fun x o1 => ∃ ds, x = .da (.tup ds) ∧ ∃ Pv : Nat → R → O → Prop, Pv 0 ρ o1 ∧
    (∀ (i : Nat) d ρ' o', ds[i]? = some d → Pv i ρ' o' → AG B g (.da d) ρ' o' fun ρ2 o2 => WS B tb { D0 with nx := Pv (i + 1), ct := Pv (i + 1), bk := D0.nx } ρ2 o2) ∧ ∀ ρ' o', Pv ds.length ρ' o' → D0.nx ρ' o') :
    WS B (tFor (iSq K tl) g tb) D0 ρ o := by
  intro F H θ σ k E hE
  refine h F H θ σ k _ fun v x F1 H1 θ1 o1 t1 k1 r1 p1 => ?_
  obtain ⟨ds, rfl, Pv, h0, hs, hd⟩ := p1
  cases r1 with
  | @tup a xs _ ea rl =>
  refine .inr (.inl ⟨a, rfl, ⟨xs, SqT.of (k1.fh a _ ea)⟩, ?_⟩)
  refine ⟨fun i m σ' H' => m = ds.length - i ∧ i ≤ ds.length ∧ ∃ F' θ' ρ' o', Tw F1 H1 θ1 F' H' θ' ∧ Ok B F' H' θ' σ' ρ' o' ∧ Pv i ρ' o', ⟨_, rfl, Nat.zero_le _, F1, θ1, ρ, o1, Tw.refl F1 H1 θ1, k1, h0⟩, ?_⟩
  intro i m σ' H' hw
  obtain ⟨rfl, hi, F', θ', ρ', o', t', k', p⟩ := hw
  have ha' : H' a = some (.tup xs) := k'.fh a _ (t'.ff a _ ea)
  by_cases hlt : i < ds.length
  · obtain ⟨w, hw1, hw2⟩ := rl.got (List.getElem?_eq_getElem hlt)
    refine .inr ⟨⟨xs, w, SqT.of ha', hw1⟩, fun σ2 H2 => ∃ F2 θ2 ρ2 o2, Tw F1 H1 θ1 F2 H2 θ2 ∧ Ok B F2 H2 θ2 σ2 ρ2 o2 ∧ Pv (i + 1) ρ2 o2, fun σ2 H2 n => ⟨_, by omega, rfl, hlt, n⟩, fun y H'' z => ?_⟩
    obtain ⟨e1, z⟩ := z
    subst e1
    have e2 := z xs (SqT.of ha')
    rw [hw1] at e2
    obtain rfl : w = y := Option.some.inj e2
    refine hs i _ ρ' o' (List.getElem?_eq_getElem hlt) p F' H'' θ' σ' w k' (RepS.dat (hw2.mono t'.ff)) _ fun F2 H2 θ2 σ2 ρ2 o2 t2 k2 p2 => ?_
    refine p2 F2 H2 θ2 σ2 k2 _ ⟨fun F3 H3 θ3 σ3 ρ3 o3 t3 k3 p3 => ⟨F3, θ3, ρ3, o3, (t'.trans t2).trans t3, k3, p3⟩, ?_, ?_, fun F3 H3 θ3 σ3 ρ3 o3 t3 k3 p3 => ⟨F3, θ3, ρ3, o3, (t'.trans t2).trans t3, k3, p3⟩⟩
    · exact fun F3 H3 θ3 σ3 ρ3 o3 v s t3 k3 r3 p3 => hE.rt F3 H3 θ3 σ3 ρ3 o3 v s (((t1.trans t').trans t2).trans t3) k3 r3 p3
    · exact fun F3 H3 θ3 σ3 ρ3 o3 t3 k3 p3 => hE.nx F3 H3 θ3 σ3 ρ3 o3 (((t1.trans t').trans t2).trans t3) k3 p3
  · have e : i = ds.length := by omega
    subst e
    exact .inl ⟨⟨xs, SqT.of ha', by rw [rl.len]; exact Nat.le_refl _⟩, hE.nx F' H' θ' σ' ρ' o' (t1.trans t') k' (hd ρ' o' p)⟩
/-- over lo, lo + 1, .. -/
theorem s_forR {lo : Int} {n : Nat} {F1 H1 : Hp} {θ1 : List Addr} {σ : St} {o1 : O} {E : Ends} (k1 : Ok B F1 H1 θ1 σ ρ o1) (hE : Sat B F1 H1 θ1 D0 E) (Pv : Nat → R → O → Prop) (h0 : Pv 0 ρ o1)
    (hs : ∀ (i : Nat) ρ' o', i < n → Pv i ρ' o' → AG B g (.da (.int (lo + i))) ρ' o' fun ρ2 o2 => WS B tb { D0 with nx := Pv (i + 1), ct := Pv (i + 1), bk := D0.nx } ρ2 o2) (hd : ∀ ρ' o', Pv n ρ' o' → D0.nx ρ' o') :
    ∃ W : Nat → Nat → L2.St → Hp → Prop, (∃ m, W 0 m σ H1) ∧ ∀ i m σ H, W i m σ H →
      ((Itr lo n).stop i H ∧ E.nx σ H) ∨ ((Itr lo n).go i H ∧ ∃ N : L2.St → Hp → Prop, (∀ σ' H', N σ' H' → ∃ m', m' < m ∧ W (i + 1) m' σ' H') ∧ ∀ x H', (Itr lo n).yld i H x H' → g x σ H' fun σ2 H2 => tb { E with nx := N, ct := N, bk := E.nx } σ2 H2) := by
  refine for_range (fun i σ' H' => ∃ F' θ' ρ' o', Tw F1 H1 θ1 F' H' θ' ∧ Ok B F' H' θ' σ' ρ' o' ∧ Pv i ρ' o') ⟨F1, θ1, ρ, o1, Tw.refl F1 H1 θ1, k1, h0⟩ (fun i σ' H' hi hw => ?_) (fun σ' H' hw => ?_)
  · obtain ⟨F', θ', ρ', o', t', k', p⟩ := hw
    refine hs i ρ' o' hi p F' H' θ' σ' _ k' (RepS.dat (Rep.int _)) _ fun F2 H2 θ2 σ2 ρ2 o2 t2 k2 p2 => ?_
    refine p2 F2 H2 θ2 σ2 k2 _ ⟨fun F3 H3 θ3 σ3 ρ3 o3 t3 k3 p3 => ⟨F3, θ3, ρ3, o3, (t'.trans t2).trans t3, k3, p3⟩, ?_, ?_, fun F3 H3 θ3 σ3 ρ3 o3 t3 k3 p3 => ⟨F3, θ3, ρ3, o3, (t'.trans t2).trans t3, k3, p3⟩⟩
    · exact fun F3 H3 θ3 σ3 ρ3 o3 v s t3 k3 r3 p3 => hE.rt F3 H3 θ3 σ3 ρ3 o3 v s ((t'.trans t2).trans t3) k3 r3 p3
    · exact fun F3 H3 θ3 σ3 ρ3 o3 t3 k3 p3 => hE.nx F3 H3 θ3 σ3 ρ3 o3 ((t'.trans t2).trans t3) k3 p3
  · obtain ⟨F', θ', ρ', o', t', k', p⟩ := hw
    exact hE.nx F' H' θ' σ' ρ' o' t' k' (hd ρ' o' p)
theorem s_range1 {t : TA} (h : AA B t ρ o fun xs o1 => ∃ j : Int, xs = [.da (.int j)] ∧ -(2 ^ 62) ≤ j ∧ j < 2 ^ 62 ∧ ∃ Pv : Nat → R → O → Prop, Pv 0 ρ o1 ∧
    (∀ (i : Nat) ρ' o', i < j.toNat → Pv i ρ' o' → AG B g (.da (.int (i : Int))) ρ' o' fun ρ2 o2 => WS B tb { D0 with nx := Pv (i + 1), ct := Pv (i + 1), bk := D0.nx } ρ2 o2) ∧ ∀ ρ' o', Pv j.toNat ρ' o' → D0.nx ρ' o') :
    WS B (tFor (iRng1 t) g tb) D0 ρ o := by
  intro F H θ σ k E hE
  refine h F H θ σ k _ fun vs xs F1 H1 θ1 o1 t1 k1 r1 p1 => ?_
  obtain ⟨j, rfl, h1, h2, Pv, h0, hs, hd⟩ := p1
  cases r1 with
  | cons r rs =>
    cases rs
    have e := rep_int r
    subst e
    refine ⟨j, rfl, h1, h2, s_forR k1 (hE.on t1) Pv h0 (fun i ρ' o' hi p => ?_) hd⟩
    rw [Int.zero_add]
    exact hs i ρ' o' hi p
theorem s_range2 {t : TA} (h : AA B t ρ o fun xs o1 => ∃ a j : Int, xs = [.da (.int a), .da (.int j)] ∧ (-(2 ^ 62) ≤ a ∧ a < 2 ^ 62 ∧ -(2 ^ 62) ≤ j ∧ j < 2 ^ 62) ∧ ∃ Pv : Nat → R → O → Prop, Pv 0 ρ o1 ∧
    (∀ (i : Nat) ρ' o', i < (j - a).toNat → Pv i ρ' o' → AG B g (.da (.int (a + i))) ρ' o' fun ρ2 o2 => WS B tb { D0 with nx := Pv (i + 1), ct := Pv (i + 1), bk := D0.nx } ρ2 o2) ∧ ∀ ρ' o', Pv (j - a).toNat ρ' o' → D0.nx ρ' o') :
    WS B (tFor (iRng2 t) g tb) D0 ρ o := by
  intro F H θ σ k E hE
  refine h F H θ σ k _ fun vs xs F1 H1 θ1 o1 t1 k1 r1 p1 => ?_
  obtain ⟨a, j, rfl, hb, Pv, h0, hs, hd⟩ := p1
  cases r1 with
  | cons r rs =>
    cases rs with
    | cons r' rs =>
      cases rs
      have e := rep_int r
      have e' := rep_int r'
      subst e e'
      exact ⟨a, j, rfl, hb, s_forR k1 (hE.on t1) Pv h0 hs hd⟩
theorem s_while {c : TT} (Pv : Nat → R → O → Prop) (m0 : Nat) (h0 : Pv m0 ρ o)
    (hs : ∀ m ρ' o', Pv m ρ' o' → AT B c ρ' o' fun b o1 => if b = true then WS B tb { D0 with nx := fun ρ o => ∃ m', m' < m ∧ Pv m' ρ o, ct := fun ρ o => ∃ m', m' < m ∧ Pv m' ρ o, bk := D0.nx } ρ' o1 else D0.nx ρ' o1) : WS B (tWhile c tb) D0 ρ o := by
  intro F H θ σ k E hE
  refine ⟨fun m σ' H' => ∃ F' θ' ρ' o', Tw F H θ F' H' θ' ∧ Ok B F' H' θ' σ' ρ' o' ∧ Pv m ρ' o', ⟨m0, F, θ, ρ, o, Tw.refl F H θ, k, h0⟩, fun m σ' H' hw => ?_⟩
  obtain ⟨F', θ', ρ', o', t', k', p⟩ := hw
  refine hs m ρ' o' p F' H' θ' σ' k' _ fun b F1 H1 θ1 o1 t1 k1 p1 => ?_
  cases b with
  | true =>
    refine ⟨fun σ2 H2 => ∃ m', m' < m ∧ ∃ F2 θ2 ρ2 o2, Tw F H θ F2 H2 θ2 ∧ Ok B F2 H2 θ2 σ2 ρ2 o2 ∧ Pv m' ρ2 o2, fun _ _ n => n, ?_⟩
    refine p1 F1 H1 θ1 σ' k1 _ ⟨fun F3 H3 θ3 σ3 ρ3 o3 t3 k3 p3 => ?_, ?_, ?_, fun F3 H3 θ3 σ3 ρ3 o3 t3 k3 p3 => ?_⟩
    · obtain ⟨m', l, p3⟩ := p3
      exact ⟨m', l, F3, θ3, ρ3, o3, (t'.trans t1).trans t3, k3, p3⟩
    · exact fun F3 H3 θ3 σ3 ρ3 o3 v s t3 k3 r3 p3 => hE.rt F3 H3 θ3 σ3 ρ3 o3 v s ((t'.trans t1).trans t3) k3 r3 p3
    · exact fun F3 H3 θ3 σ3 ρ3 o3 t3 k3 p3 => hE.nx F3 H3 θ3 σ3 ρ3 o3 ((t'.trans t1).trans t3) k3 p3
    · obtain ⟨m', l, p3⟩ := p3
      exact ⟨m', l, F3, θ3, ρ3, o3, (t'.trans t1).trans t3, k3, p3⟩
  | false => exact hE.nx F1 H1 θ1 σ' ρ' o1 (t'.trans t1) k1 p1
/-! ### comprehensions -/
def wipeR (ρ : R) : List Nat → R
  | [] => ρ
  | v :: vs => (wipeR ρ vs).set v none
theorem Sls.wipe {F : Hp} {θ : List Addr} {σ : L2.St} {ρ : R} (h : Sls F θ σ ρ) : ∀ vs : List Nat, Sls F θ (L2.wipe σ vs) (wipeR ρ vs)
  | [] => h
  | _ :: vs => Sls.none (h.wipe vs) Option.none
/-- the list that is being made -/
structure Made (F H : Hp) (θ : List Addr) (l : Addr) (acc : List D) : Prop where
  at_ : ∃ vs, H l = some (.lst vs) ∧ RepL F vs acc
  fr : F l = none
  nm : l ∉ θ
theorem Made.on {F H F' H' : Hp} {θ θ' : List Addr} {l : Addr} {acc : List D} (m : Made F H θ l acc) (t : Tw F H θ F' H' θ') : Made F' H' θ' l acc := by
  obtain ⟨vs, h1, h2⟩ := m.at_
  refine ⟨⟨vs, t.kp l _ h1 m.nm, h2.mono t.ff⟩, t.nf l _ m.nm m.fr h1, fun z => ?_⟩
  rcases t.nt l z with q | q
  · exact m.nm q
  · rw [h1] at q; cases q
/-- a known object that is neither own nor stays is written -/
theorem Ok.writ {F H : Hp} {θ : List Addr} {σ : L2.St} {ρ : R} {o : O} {l : Addr} {u w : HO} (k : Ok B F H θ σ ρ o) (hn : B.H l = none) (h0 : H l = some w) (hf : F l = none) (hm : l ∉ θ) : Ok B F (upd H l u) θ σ ρ o := by
  refine ⟨⟨k.tr.ff, k.tr.pre, fun a v h n => ?_, fun a h => ?_, k.tr.nw, k.tr.nt⟩, fun a v h => ?_, k.len, k.nd, k.fr, fun j a v h1 h2 => ?_, k.sl⟩
  · rw [upd_ne (fun e => by rw [e, hn] at h; cases h)]
    exact k.tr.kp a v h n
  · by_cases e : a = l
    · rw [e]; exact hn
    · rw [upd_ne e] at h; exact k.tr.th a h
  · rw [upd_ne (fun e => by rw [e, hf] at h; cases h)]
    exact k.fh a v h
  · refine (k.ob j a v h1 h2).at fun v' h => ?_
    rw [upd_ne (fun e => hm (by rw [← e]; exact List.mem_of_getElem? h1))]
    exact h
/-- a known object comes to stay -/
theorem Ok.stay {F H : Hp} {θ : List Addr} {σ : L2.St} {ρ : R} {o : O} {l : Addr} {u : HO} (k : Ok B F H θ σ ρ o) (hn : B.H l = none) (h0 : H l = some u) (hf : F l = none) (hm : l ∉ θ) : Ok B (upd F l u) H θ σ ρ o ∧ Ex F (upd F l u) := by
  have e := Ex.new (o := u) hf
  refine ⟨⟨⟨k.tr.ff.trans e, k.tr.pre, k.tr.kp, k.tr.th, fun a v h => ?_, k.tr.nt⟩, fun a v h => ?_, k.len, k.nd, fun j a v h1 h2 h3 => ?_, fun j a v h1 h2 => (k.ob j a v h1 h2).mono e ⟨[], by simp⟩, k.sl.mono e ⟨[], by simp⟩⟩, e⟩
  · by_cases q : a = l
    · exact .inr (by rw [q]; exact hn)
    · rw [upd_ne q] at h; exact k.tr.nw a v h
  · by_cases q : a = l
    · rw [q, upd_same] at h; rw [q]; cases h; exact h0
    · rw [upd_ne q] at h; exact k.fh a v h
  · rw [upd_ne (fun q => hm (by rw [← q]; exact List.mem_of_getElem? h1))]
    exact k.fr j a v h1 h2 h3
theorem wipe_get (σ : L2.St) (i : Nat) : ∀ vs : List Nat, (L2.wipe σ vs)[i]? = if i ∈ vs then (σ[i]?).map (fun _ => Option.none) else σ[i]?
  | [] => by simp [L2.wipe]
  | v :: vs => by
    unfold L2.wipe
    by_cases e : v = i
    · subst e
      rw [if_pos (List.mem_cons_self ..)]
      by_cases hl : v < σ.length
      · rw [List.getElem?_set_self (by rw [L2.wipe_length]; exact hl), List.getElem?_eq_getElem hl]; rfl
      · rw [List.getElem?_eq_none (by rw [List.length_set, L2.wipe_length]; omega), List.getElem?_eq_none (by omega)]; rfl
    · rw [List.getElem?_set_ne e, wipe_get σ i vs]
      by_cases h : i ∈ vs
      · rw [if_pos h, if_pos (List.mem_cons_of_mem _ h)]
      · rw [if_neg h, if_neg (fun z => by
          rcases List.mem_cons.mp z with z | z
          · exact e z.symm
          · exact h z)]
theorem wipe_set {σ : L2.St} {j : Nat} {x : Option V} {vs : List Nat} (h : j ∈ vs) : L2.wipe (σ.set j x) vs = L2.wipe σ vs := by
  apply List.ext_getElem?
  intro i
  rw [wipe_get, wipe_get]
  by_cases e : j = i
  · subst e
    rw [if_pos h, if_pos h]
    by_cases hl : j < σ.length
    · rw [List.getElem?_set_self hl, List.getElem?_eq_getElem hl]; rfl
    · rw [List.getElem?_eq_none (by rw [List.length_set]; omega), List.getElem?_eq_none (by omega)]
  · rw [List.getElem?_set_ne e]
theorem wipe_wipe {σ : L2.St} {vs : List Nat} : L2.wipe (L2.wipe σ vs) vs = L2.wipe σ vs := by
  apply List.ext_getElem?
  intro i
  rw [wipe_get, wipe_get]
  by_cases e : i ∈ vs
  · rw [if_pos e, if_pos e]
    cases σ[i]? <;> rfl
  · rw [if_neg e, if_neg e]
/-- a target of a comprehension: it stores at places of vs alone -/
def AGW (B : Base) (g : TG) (vs : List Nat) (x : Sl) (ρ : R) (o : O) (P : R → O → Prop) : Prop :=
  ∀ F H θ σ v, Ok B F H θ σ ρ o → RepS F θ v x → ∀ Q : L2.St → Hp → Prop, (∀ F' H' θ' σ' ρ' o', Tw F H θ F' H' θ' → Ok B F' H' θ' σ' ρ' o' → L2.wipe σ' vs = L2.wipe σ vs → P ρ' o' → Q σ' H') → g v σ H Q
def AGWs (B : Base) (g : TGs) (vs : List Nat) (xs : List Sl) (ρ : R) (o : O) (P : R → O → Prop) : Prop :=
  ∀ F H θ σ us, Ok B F H θ σ ρ o → RepSL F θ us xs → ∀ Q : L2.St → Hp → Prop, (∀ F' H' θ' σ' ρ' o', Tw F H θ F' H' θ' → Ok B F' H' θ' σ' ρ' o' → L2.wipe σ' vs = L2.wipe σ vs → P ρ' o' → Q σ' H') → g us σ H Q
theorem gw_name {i : Nat} {vs : List Nat} {x : Sl} {P : R → O → Prop} (hi : i ∈ vs) (h : P (ρ.set i (some x)) o) : AGW B (gName i) vs x ρ o P := fun F H θ σ v k r Q q =>
  q F H θ (σ.set i (some v)) _ o (Tw.refl F H θ) (k.slots (k.sl.set r)) (wipe_set hi) h
theorem gw_nil {vs : List Nat} {P : R → O → Prop} (h : P ρ o) : AGWs B gNil vs [] ρ o P := fun F H θ σ v k r Q q => by
  cases r
  exact ⟨rfl, q F H θ σ ρ o (Tw.refl F H θ) k rfl h⟩
theorem gw_cons {gs : TGs} {vs : List Nat} {x : Sl} {xs : List Sl} {P : R → O → Prop} (h : AGW B g vs x ρ o fun ρ1 o1 => AGWs B gs vs xs ρ1 o1 P) : AGWs B (gCons g gs) vs (x :: xs) ρ o P := fun F H θ σ us k r Q q => by
  cases r with
  | @cons v _ vs' _ r rs =>
    exact ⟨v, vs', rfl, h F H θ σ v k r _ fun F1 H1 θ1 σ1 ρ1 o1 t1 k1 e1 p1 => p1 F1 H1 θ1 σ1 vs' k1 (RepSL.mono t1.ff t1.pre rs) Q fun F' H' θ' σ' ρ' o' t2 k2 e2 p2 => q F' H' θ' σ' ρ' o' (t1.trans t2) k2 (e2.trans e1) p2⟩
theorem gw_unT {n : Nat} {gs : TGs} {vs : List Nat} {ds : List D} {P : R → O → Prop} (hn : ds.length = n) (h : AGWs B gs vs (ds.map Sl.da) ρ o P) : AGW B (gUn K n gs) vs (.da (.tup ds)) ρ o P := fun F H θ σ v k r Q q => by
  cases r with
  | @tup a xs _ e rl => exact .inl ⟨a, xs, rfl, SqT.of (k.fh a _ e), by rw [rl.len, hn], h F H θ σ xs k (all_da rl) Q q⟩
theorem gw_unL {n : Nat} {gs : TGs} {vs : List Nat} {ds : List D} {P : R → O → Prop} (hn : ds.length = n) (h : AGWs B gs vs (ds.map Sl.da) ρ o P) : AGW B (gUn K n gs) vs (.da (.lst ds)) ρ o P := fun F H θ σ v k r Q q => by
  cases r with
  | @lst a xs _ e rl => exact .inr ⟨a, xs, rfl, SqL.of (k.fh a _ e), by rw [rl.len, hn], h F H θ σ xs k (all_da rl) Q q⟩
theorem g_unT {n : Nat} {gs : TGs} {ds : List D} {P : R → O → Prop} (hn : ds.length = n) (h : AGs B gs (ds.map Sl.da) ρ o P) : AG B (gUn K n gs) (.da (.tup ds)) ρ o P := fun F H θ σ v k r Q q => by
  cases r with
  | @tup a xs _ e rl => exact .inl ⟨a, xs, rfl, SqT.of (k.fh a _ e), by rw [rl.len, hn], h F H θ σ xs k (all_da rl) Q q⟩
theorem g_unL {n : Nat} {gs : TGs} {x : Sl} {ss : List Sl} {P : R → O → Prop} (hx : LL o x ss) (hn : ss.length = n) (h : AGs B gs ss ρ o P) : AG B (gUn K n gs) x ρ o P := fun F H θ σ v k r Q q => by
  obtain ⟨a, xs, rfl, ha, rl⟩ := hx.at k r
  exact .inr ⟨a, xs, rfl, SqL.of ha, by rw [Paired.len rl, hn], h F H θ σ xs k rl Q q⟩
section
variable {tt : TT} {te : TE} {vs : List Nat}
/-- the state amid a comprehension -/
def LcI (B : Base) (F1 H1 : Hp) (θ1 : List Addr) (σ : L2.St) (ρ : R) (l : Addr) (Pv : Nat → List D → O → Prop) (i : Nat) (H' : Hp) : Prop :=
  ∃ F' θ' acc o', Tw F1 H1 θ1 F' H' θ' ∧ Ok B F' H' θ' σ ρ o' ∧ Pv i acc o' ∧ Made F' H' θ' l acc
theorem Tw.writ {F H F' H' : Hp} {θ θ' : List Addr} {l : Addr} {u : HO} (t : Tw F H θ F' H' θ') (hn : H l = none) : Tw F H θ F' (upd H' l u) θ' :=
  ⟨t.ff, t.pre, fun a o h n => by
    rw [upd_ne (fun e => by rw [e, hn] at h; cases h)]
    exact t.kp a o h n, fun a h => by
    by_cases e : a = l
    · rw [e]; exact hn
    · rw [upd_ne e] at h; exact t.th a h, t.nt, t.nf⟩
theorem Tw.stay {F H F' H' : Hp} {θ θ' : List Addr} {l : Addr} {u : HO} (t : Tw F H θ F' H' θ') (hn : H l = none) (hf : F' l = none) : Tw F H θ (upd F' l u) H' θ' :=
  ⟨t.ff.trans (Ex.new hf), t.pre, t.kp, t.th, t.nt, fun a o h h1 h2 => by
    rw [upd_ne (fun e => by rw [e, hn] at h2; cases h2)]
    exact t.nf a o h h1 h2⟩
theorem lc_turn {Pv : Nat → List D → O → Prop} {F1 H1 : Hp} {θ1 : List Addr} {σ : L2.St} {l : Addr} {i : Nat} {x : V} {H' : Hp} {d : D} (hn1 : H1 l = none) (hnB : B.H l = none) (few : ∀ i acc o', Pv i acc o' → acc.length ≤ 1000000)
    (turn : ∀ acc o', Pv i acc o' → AGW B g vs (.da d) (wipeR ρ vs) o' fun ρ2 o2 => AT B tt ρ2 o2 fun b o3 => if b = true then AE B te ρ2 o3 fun y o4 => ∃ e, y = .da e ∧ Pv (i + 1) (acc ++ [e]) o4 else Pv (i + 1) acc o3)
    (h : LcI B F1 H1 θ1 σ ρ l Pv i H') (hx : ∀ F' θ', Tw F1 H1 θ1 F' H' θ' → Rep F' x d) :
    g x (L2.wipe σ vs) H' fun σ2 H2 => L2.wipe σ2 vs = L2.wipe σ vs ∧ tt σ2 H2 fun b H3 => if b = true then te σ2 H3 fun y H4 => ∃ acc, H4 l = some (.lst acc) ∧ acc.length < sizeLine ∧ LcI B F1 H1 θ1 σ ρ l Pv (i + 1) (upd H4 l (.lst (acc ++ [y]))) else LcI B F1 H1 θ1 σ ρ l Pv (i + 1) H3 := by
  obtain ⟨F', θ', acc, o', t, k, p, m⟩ := h
  refine turn acc o' p F' H' θ' (L2.wipe σ vs) x (k.slots (k.sl.wipe vs)) (RepS.dat (hx F' θ' t)) _ fun F2 H2 θ2 σ2 ρ2 o2 t2 k2 e2 p2 => ?_
  refine ⟨e2.trans wipe_wipe, p2 F2 H2 θ2 σ2 k2 _ fun b F3 H3 θ3 o3 t3 k3 p3 => ?_⟩
  have t13 := (t.trans t2).trans t3
  cases b with
  | true =>
    refine p3 F3 H3 θ3 σ2 k3 _ fun y s F4 H4 θ4 o4 t4 k4 r4 p4 => ?_
    obtain ⟨e, rfl, p4⟩ := p4
    have m4 := ((m.on t2).on t3).on t4
    obtain ⟨us, h1, h2⟩ := m4.at_
    have t14 := t13.trans t4
    refine ⟨us, h1, ?_, F4, θ4, acc ++ [e], o4, t14.writ hn1, ?_, p4, ⟨⟨us ++ [y], upd_same, h2.app (.cons r4 .nil)⟩, m4.fr, m4.nm⟩⟩
    · rw [h2.len]
      have := few _ _ _ p
      rw [sizeLine_eq]
      omega
    · exact (k4.slots (k.sl.mono ((t2.trans t3).trans t4).ff ((t2.trans t3).trans t4).pre)).writ hnB h1 m4.fr m4.nm
  | false => exact ⟨F3, θ3, acc, o3, t13, k3.slots (k.sl.mono (t2.trans t3).ff (t2.trans t3).pre), p3, (m.on t2).on t3⟩
theorem lc_end {Pv : List D → O → Prop} {F H F1 H1 : Hp} {θ θ1 : List Addr} {σ : L2.St} {l : Addr} {H' : Hp} {Q : VK} (t1 : Tw F H θ F1 H1 θ1) (hn1 : H1 l = none) (hnB : B.H l = none)
    (q : ∀ v s F' H' θ' o', Tw F H θ F' H' θ' → Ok B F' H' θ' σ ρ o' → RepS F' θ' v s → P s o' → Q v H') (hd : ∀ acc o', Pv acc o' → P (.da (.lst acc)) o')
    (h : LcI B F1 H1 θ1 σ ρ l (fun _ => Pv) 0 H') : Q (.ref l) H' := by
  obtain ⟨F', θ', acc, o', t, k, p, m⟩ := h
  obtain ⟨us, h1, h2⟩ := m.at_
  obtain ⟨k', e⟩ := k.stay hnB h1 m.fr m.nm
  exact q _ _ _ _ _ _ (t1.trans (t.stay hn1 m.fr)) k' (RepS.dat (Rep.lst upd_same (h2.mono e))) (hd acc o' p)
/-- over a list of data -/
theorem e_lc {tl : TE} (h : AE B tl ρ o fun x o1 => ∃ ds, x = .da (.lst ds) ∧ ∃ Pv : Nat → List D → O → Prop, Pv 0 [] o1 ∧ (∀ i acc o', Pv i acc o' → acc.length ≤ 1000000) ∧
    (∀ (i : Nat) d acc o', ds[i]? = some d → Pv i acc o' → AGW B g vs (.da d) (wipeR ρ vs) o' fun ρ2 o2 => AT B tt ρ2 o2 fun b o3 => if b = true then AE B te ρ2 o3 fun y o4 => ∃ e, y = .da e ∧ Pv (i + 1) (acc ++ [e]) o4 else Pv (i + 1) acc o3) ∧
    ∀ acc o', Pv ds.length acc o' → P (.da (.lst acc)) o') : AE B (tLc (iSq K tl) g tt te vs) ρ o P := by
  intro F H θ σ k Q q
  refine h F H θ σ k _ fun v x F1 H1 θ1 o1 t1 k1 r1 p1 => ?_
  obtain ⟨ds, rfl, Pv, h0, few, turn, hd⟩ := p1
  cases r1 with
  | @lst a xs _ ea rl =>
  refine .inl ⟨a, rfl, ⟨xs, SqL.of (k1.fh a _ ea)⟩, fun l hn => ?_⟩
  have hnB : B.H l = none := k1.tr.th l hn
  have hfl : F1 l = none := by
    cases z : F1 l with
    | none => rfl
    | some w => have := k1.fh l w z; rw [hn] at this; cases this
  have nm : l ∉ θ1 := fun z => by obtain ⟨w, hw⟩ := k1.mem z; rw [hn] at hw; cases hw
  have k1' : Ok B F1 (upd H1 l (.lst [])) θ1 σ ρ o1 := by
    refine ⟨(k1.tr.trans ?_), (fun b u z => Ex.new hn b u (k1.fh b u z)), k1.len, k1.nd, k1.fr, fun j b u z1 z2 => (k1.ob j b u z1 z2).at fun w' h => Ex.new hn b w' h, k1.sl⟩
    exact ⟨Ex.refl _, ⟨[], by simp⟩, fun b u z _ => Ex.new hn b u z, fun b z => by
      by_cases e : b = l
      · rw [e]; exact hn
      · rwa [upd_ne e] at z, fun b u z => .inl ⟨u, z⟩, fun b z => .inl z⟩
  refine lc_list (xs := xs) (fun i H' => LcI B F1 H1 θ1 σ ρ l Pv i H') ⟨F1, θ1, [], o1, (Tw.refl F1 H1 θ1).writ hn, k1', h0, ⟨⟨[], upd_same, .nil⟩, hfl, nm⟩⟩ (fun i H' _ w => ?_) (fun i x H' hx w => ?_) (fun H' w => ?_)
  · obtain ⟨F', θ', acc, o', t, k', _⟩ := w
    exact SqL.of (k'.fh a _ (t.ff a _ ea))
  · obtain ⟨d, hd1, hd2⟩ := rl.get hx
    have z := lc_turn (tt := tt) (te := te) (x := x) hn hnB few (turn i d · · hd1) w (fun F' θ' t => hd2.mono t.ff)
    exact z
  · rw [rl.len] at w
    obtain ⟨F', θ', acc, o', t, k', p, m⟩ := w
    exact lc_end (Pv := Pv ds.length) t1 hn hnB q hd ⟨F', θ', acc, o', t, k', p, m⟩
theorem lc_start {F1 H1 : Hp} {θ1 : List Addr} {σ : L2.St} {o1 : O} {l : Addr} {Pv : Nat → List D → O → Prop} (k1 : Ok B F1 H1 θ1 σ ρ o1) (hn : H1 l = none) (h0 : Pv 0 [] o1) : LcI B F1 H1 θ1 σ ρ l Pv 0 (upd H1 l (.lst [])) := by
  have hfl : F1 l = none := by
    cases z : F1 l with
    | none => rfl
    | some w => have := k1.fh l w z; rw [hn] at this; cases this
  have nm : l ∉ θ1 := fun z => by obtain ⟨w, hw⟩ := k1.mem z; rw [hn] at hw; cases hw
  have k1' : Ok B F1 (upd H1 l (.lst [])) θ1 σ ρ o1 := by
    refine ⟨(k1.tr.trans ?_), (fun b u z => Ex.new hn b u (k1.fh b u z)), k1.len, k1.nd, k1.fr, fun j b u z1 z2 => (k1.ob j b u z1 z2).at fun w' h => Ex.new hn b w' h, k1.sl⟩
    exact ⟨Ex.refl _, ⟨[], by simp⟩, fun b u z _ => Ex.new hn b u z, fun b z => by
      by_cases e : b = l
      · rw [e]; exact hn
      · rwa [upd_ne e] at z, fun b u z => .inl ⟨u, z⟩, fun b z => .inl z⟩
  exact ⟨F1, θ1, [], o1, (Tw.refl F1 H1 θ1).writ hn, k1', h0, ⟨⟨[], upd_same, .nil⟩, hfl, nm⟩⟩
theorem e_lcR1 {t : TA} (h : AA B t ρ o fun xs o1 => ∃ j : Int, xs = [.da (.int j)] ∧ -(2 ^ 62) ≤ j ∧ j < 2 ^ 62 ∧ ∃ Pv : Nat → List D → O → Prop, Pv 0 [] o1 ∧ (∀ i acc o', Pv i acc o' → acc.length ≤ 1000000) ∧
    (∀ (i : Nat) acc o', i < j.toNat → Pv i acc o' → AGW B g vs (.da (.int (i : Int))) (wipeR ρ vs) o' fun ρ2 o2 => AT B tt ρ2 o2 fun b o3 => if b = true then AE B te ρ2 o3 fun y o4 => ∃ e, y = .da e ∧ Pv (i + 1) (acc ++ [e]) o4 else Pv (i + 1) acc o3) ∧
    ∀ acc o', Pv j.toNat acc o' → P (.da (.lst acc)) o') : AE B (tLc (iRng1 t) g tt te vs) ρ o P := by
  intro F H θ σ k Q q
  refine h F H θ σ k _ fun us xs F1 H1 θ1 o1 t1 k1 r1 p1 => ?_
  obtain ⟨j, rfl, hb1, hb2, Pv, h0, few, turn, hd⟩ := p1
  cases r1 with
  | cons r rs =>
  cases rs
  have e := rep_int r
  subst e
  refine ⟨j, rfl, hb1, hb2, fun l hn => ?_⟩
  have hnB : B.H l = none := k1.tr.th l hn
  refine lc_range (lo := 0) (n := j.toNat) (fun i H' => LcI B F1 H1 θ1 σ ρ l Pv i H') (lc_start k1 hn h0) (fun i H' hi w => ?_) (fun H' w => ?_)
  · exact lc_turn (d := .int (i : Int)) (tt := tt) (te := te) hn hnB few (turn i · · hi) w (fun F' θ' t => by rw [Int.zero_add]; exact Rep.int _)
  · obtain ⟨F', θ', acc, o', t, k', p, m⟩ := w
    exact lc_end (Pv := Pv j.toNat) t1 hn hnB q hd ⟨F', θ', acc, o', t, k', p, m⟩
theorem e_lcR2 {t : TA} (h : AA B t ρ o fun xs o1 => ∃ a j : Int, xs = [.da (.int a), .da (.int j)] ∧ (-(2 ^ 62) ≤ a ∧ a < 2 ^ 62 ∧ -(2 ^ 62) ≤ j ∧ j < 2 ^ 62) ∧ ∃ Pv : Nat → List D → O → Prop, Pv 0 [] o1 ∧ (∀ i acc o', Pv i acc o' → acc.length ≤ 1000000) ∧
    (∀ (i : Nat) acc o', i < (j - a).toNat → Pv i acc o' → AGW B g vs (.da (.int (a + i))) (wipeR ρ vs) o' fun ρ2 o2 => AT B tt ρ2 o2 fun b o3 => if b = true then AE B te ρ2 o3 fun y o4 => ∃ e, y = .da e ∧ Pv (i + 1) (acc ++ [e]) o4 else Pv (i + 1) acc o3) ∧
    ∀ acc o', Pv (j - a).toNat acc o' → P (.da (.lst acc)) o') : AE B (tLc (iRng2 t) g tt te vs) ρ o P := by
  intro F H θ σ k Q q
  refine h F H θ σ k _ fun us xs F1 H1 θ1 o1 t1 k1 r1 p1 => ?_
  obtain ⟨a, j, rfl, hb, Pv, h0, few, turn, hd⟩ := p1
  cases r1 with
  | cons r rs =>
  cases rs with
  | cons r' rs =>
  cases rs
  have e := rep_int r
  have e' := rep_int r'
  subst e e'
  refine ⟨a, j, rfl, hb, fun l hn => ?_⟩
  have hnB : B.H l = none := k1.tr.th l hn
  refine lc_range (lo := a) (n := (j - a).toNat) (fun i H' => LcI B F1 H1 θ1 σ ρ l Pv i H') (lc_start k1 hn h0) (fun i H' hi w => ?_) (fun H' w => ?_)
  · exact lc_turn (d := .int (a + i)) (tt := tt) (te := te) hn hnB few (turn i · · hi) w (fun F' θ' t => Rep.int _)
  · obtain ⟨F', θ', acc, o', t, k', p, m⟩ := w
    exact lc_end (Pv := Pv (j - a).toNat) t1 hn hnB q hd ⟨F', θ', acc, o', t, k', p, m⟩
theorem t_yes {P : Bool → O → Prop} (h : P true o) : AT B tYes ρ o P := fun F H θ σ k Q q => q true F H θ o (Tw.refl F H θ) k h
end
end
end AB

set_option Elab.async false
set_option linter.all false
set_option maxRecDepth 100000
set_option maxHeartbeats 4000000
set_option autoImplicit false
namespace AB
open PySem L2 PySem.Spec PyProof.Rows
/-! ### contracts -/
abbrev Con := List Sl → O → (Sl → O → Prop) → (Addr → List (Str × D) → O → Prop) → Prop
def SpC (C : Con) : Sp := fun vs H Q E => ∃ F θ ss o0 Rt Xt, Ok ⟨F, H, θ⟩ F H θ (vs.map some) (ss.map some) o0 ∧ C ss o0 Rt Xt ∧
  (∀ v s F' H' θ' o', Ok ⟨F, H, θ⟩ F' H' θ' [] [] o' → RepS F' θ' v s → Rt s o' → Q v H') ∧
  (∀ C' dd fs ks F' H' θ' o', Ok ⟨F, H, θ⟩ F' H' θ' [] [] o' → F' dd = some (.xd ks) → RepF F' ks fs → Xt C' fs o' → E (.ref C') (some dd) H')
theorem con_len {C : Con} {n : Nat} (h : ∀ ss o Rt Xt, C ss o Rt Xt → ss.length = n) : ∀ vs H Q E, SpC C vs H Q E → vs.length = n := by
  intro vs H Q E ⟨F, θ, ss, o0, Rt, Xt, k, c, _⟩
  have := k.sl.len
  rw [List.length_map, List.length_map] at this
  rw [this]
  exact h ss o0 Rt Xt c
theorem Ok.bare {B : Base} {F H : Hp} {θ : List Addr} {σ : L2.St} {ρ : R} {o : O} (k : Ok B F H θ σ ρ o) : Ok B F H θ [] [] o := k.slots ⟨rfl, fun i s h => by simp at h⟩
/-- a def's body: from its contract -/
theorem con_run {C : Con} {t : TS} {N : List Str} {vs : List V} {H : Hp} {Q : VK} {E : XK} (h : SpC C vs H Q E)
    (hb : ∀ B ss o Rt Xt, B.θ.length = o.length → C ss o Rt Xt → (∀ ρ o C' fs, Xt C' fs o → AX B (fun cls d _ H => E cls d H) ρ o C' fs) →
      WS B t { nx := fun _ o => Rt (.da .non) o, rt := Rt } (ss.map some ++ List.replicate (N.length - ss.length) none) o) :
    t { nx := fun _ H' => Q .non H', rt := Q } (L2.start N vs) H := by
  obtain ⟨F, θ, ss, o0, Rt, Xt, k, c, hq, hx⟩ := h
  have hl : vs.length = ss.length := by
    have := k.sl.len
    rwa [List.length_map, List.length_map] at this
  have hX : ∀ ρ o C' fs, Xt C' fs o → AX ⟨F, H, θ⟩ (fun cls d _ H => E cls d H) ρ o C' fs := fun ρ o C' fs x F' H' θ' σ dd ks k' e r => hx C' dd fs ks F' H' θ' o k'.bare e r x
  have w := hb ⟨F, H, θ⟩ ss o0 Rt Xt k.len c hX
  refine w F H θ (L2.start N vs) (k.slots ⟨?_, fun i s e => ?_⟩) _ ⟨?_, ?_, ?_, ?_⟩
  · unfold L2.start
    simp [hl]
  · unfold L2.start
    by_cases hi : i < ss.length
    · rw [List.getElem?_append_left (by rw [List.length_map]; exact hi)] at e
      rw [List.getElem?_append_left (by rw [List.length_map, hl]; exact hi)]
      exact k.sl.at_ i s e
    · rw [List.getElem?_append_right (by rw [List.length_map]; omega), List.getElem?_replicate] at e
      split at e <;> cases e
  · exact fun F' H' θ' σ ρ o t k' p => hq _ _ F' H' θ' o k'.bare (RepS.dat Rep.non) p
  · exact fun F' H' θ' σ ρ o v s t k' r p => hq v s F' H' θ' o k'.bare r p
  · exact fun F' H' θ' σ ρ o t k' p => p
  · exact fun F' H' θ' σ ρ o t k' p => p
/-! numbers of own objects, seen from the caller -/
def Sl.mv (f : Nat → Nat) : Sl → Sl
  | .da d => .da d
  | .ow j => .ow (f j)
def OO.mv (f : Nat → Nat) : OO → OO
  | .gone => .gone
  | .lst l => .lst (l.map (Sl.mv f))
  | .dic l => .dic (l.map fun p => (p.1, p.2.mv f))
  | .ins C l => .ins C (l.map fun p => (p.1, p.2.mv f))
def mvI (js : List Nat) (n i : Nat) : Nat := (js[i]?).getD (n + (i - js.length))
def setJ : O → List Nat → List OO → O
  | o, j :: js, u :: us => setJ (o.set j u) js us
  | o, _, _ => o
theorem setJ_len : ∀ (js : List Nat) (us : List OO) (o : O), (setJ o js us).length = o.length
  | [], _, o => by unfold setJ; rfl
  | j :: js, [], o => by unfold setJ; rfl
  | j :: js, u :: us, o => by
    unfold setJ
    rw [setJ_len js us, List.length_set]
theorem setJ_ne : ∀ (js : List Nat) (us : List OO) (o : O) (i : Nat), i ∉ js → (setJ o js us)[i]? = o[i]?
  | [], _, o, i, _ => by unfold setJ; rfl
  | j :: js, [], o, i, _ => by unfold setJ; rfl
  | j :: js, u :: us, o, i, h => by
    unfold setJ
    rw [setJ_ne js us _ i (fun z => h (List.mem_cons_of_mem _ z)), List.getElem?_set_ne (fun e => h (by rw [e]; exact List.mem_cons_self ..))]
theorem setJ_at : ∀ (js : List Nat) (us : List OO) (o : O) (k j : Nat), js.Nodup → us.length = js.length → js[k]? = some j → j < o.length → (setJ o js us)[j]? = us[k]?
  | [], _, o, k, j, _, _, h, _ => by simp at h
  | j0 :: js, [], o, k, j, _, hl, _, _ => by simp at hl
  | j0 :: js, u :: us, o, 0, j, nd, hl, h, hj => by
    have e : j0 = j := by simpa using h
    subst e
    unfold setJ
    rw [setJ_ne js us _ j0 (List.nodup_cons.mp nd).1, List.getElem?_set_self hj]
    rfl
  | j0 :: js, u :: us, o, k + 1, j, nd, hl, h, hj => by
    unfold setJ
    have := setJ_at js us (o.set j0 u) k j (List.nodup_cons.mp nd).2 (by simpa using hl) (by simpa using h) (by simpa using hj)
    simpa using this
/-- what a call leaves of the caller's objects -/
def back (o1 : O) (js : List Nat) (o' : O) : O := setJ o1 js ((o'.take js.length).map (OO.mv (mvI js o1.length))) ++ (o'.drop js.length).map (OO.mv (mvI js o1.length))
section
variable {B : Base} {ρ : R} {o : O} {P : Sl → O → Prop} {K : PySem.W.Frag} {D0 : AD}
theorem Sl.mv_rep {F : Hp} {θ θ0 t : List Addr} {js : List Nat} {v : V} {s : Sl} (hl : θ0.length = js.length) (hj : ∀ i j : Nat, js[i]? = some j → θ0[i]? = θ[j]? ∧ j < θ.length) (h : RepS F (θ0 ++ t) v s) : RepS F (θ ++ t) v (s.mv (mvI js θ.length)) := by
  cases s with
  | da d => exact h
  | ow i =>
    obtain ⟨a, rfl, ha⟩ := h
    refine ⟨a, rfl, ?_⟩
    show (θ ++ t)[mvI js θ.length i]? = some a
    unfold mvI
    by_cases hi : i < js.length
    · rw [List.getElem?_append_left (by rw [hl]; exact hi)] at ha
      rw [List.getElem?_eq_getElem hi]
      obtain ⟨h1, h2⟩ := hj i _ (List.getElem?_eq_getElem hi)
      show (θ ++ t)[js[i]]? = some a
      rw [List.getElem?_append_left h2, ← h1]
      exact ha
    · rw [List.getElem?_append_right (by omega), hl] at ha
      have e0 : js[i]? = none := List.getElem?_eq_none (by omega)
      rw [e0]
      show (θ ++ t)[θ.length + (i - js.length)]? = some a
      rw [List.getElem?_append_right (by omega)]
      have e : θ.length + (i - js.length) - θ.length = i - js.length := by omega
      rw [e]
      exact ha
theorem Sl.mv_per {F : Hp} {θ θ0 : List Addr} {js : List Nat} {v : V} {s : Sl} (hl : θ0.length = js.length) (hj : ∀ i j : Nat, js[i]? = some j → θ0[i]? = θ[j]? ∧ j < θ.length) (h : RepS F θ v (s.mv (mvI js θ.length))) : RepS F θ0 v s := by
  cases s with
  | da d => exact h
  | ow i =>
    obtain ⟨a, rfl, ha⟩ := h
    refine ⟨a, rfl, ?_⟩
    have ha' : θ[mvI js θ.length i]? = some a := ha
    unfold mvI at ha'
    by_cases hi : i < js.length
    · rw [List.getElem?_eq_getElem hi] at ha'
      obtain ⟨h1, h2⟩ := hj i _ (List.getElem?_eq_getElem hi)
      rw [h1]
      exact ha'
    · have e0 : js[i]? = none := List.getElem?_eq_none (by omega)
      rw [e0] at ha'
      have ha2 : θ[θ.length + (i - js.length)]? = some a := ha'
      have e1 : θ[θ.length + (i - js.length)]? = none := List.getElem?_eq_none (by omega)
      rw [e1] at ha2
      cases ha2
theorem Paired.mapR {α β γ : Type} {P : α → β → Prop} {Q : α → γ → Prop} {f : β → γ} (h : ∀ a b, P a b → Q a (f b)) : ∀ {xs : List α} {ys : List β}, Paired P xs ys → Paired Q xs (ys.map f)
  | _, _, .nil => .nil
  | _, _, .cons r t => .cons (h _ _ r) (Paired.mapR h t)
theorem Paired.mapL {α β γ : Type} {P : α → β → Prop} {Q : α → γ → Prop} {f : γ → β} (h : ∀ a c, P a (f c) → Q a c) : ∀ {xs : List α} {ys : List γ}, Paired P xs (ys.map f) → Paired Q xs ys
  | [], [], _ => .nil
  | _ :: _, _ :: _, .cons r t => .cons (h _ _ r) (Paired.mapL h t)
theorem OO.mv_rep {F H : Hp} {θ θ0 t : List Addr} {js : List Nat} {a : Addr} {u : OO} (hl : θ0.length = js.length) (hj : ∀ i j : Nat, js[i]? = some j → θ0[i]? = θ[j]? ∧ j < θ.length) (h : RepO F H (θ0 ++ t) a u) : RepO F H (θ ++ t) a (u.mv (mvI js θ.length)) := by
  cases u with
  | gone => exact h
  | lst l => obtain ⟨xs, h1, h2⟩ := h; exact ⟨xs, h1, Paired.mapR (fun _ _ r => Sl.mv_rep hl hj r) h2⟩
  | dic l => obtain ⟨xs, h1, h2⟩ := h; exact ⟨xs, h1, Paired.mapR (f := fun p : Key × Sl => (p.1, p.2.mv (mvI js θ.length))) (fun _ _ r => ⟨r.1, Sl.mv_rep hl hj r.2⟩) h2⟩
  | ins C l => obtain ⟨dx, xs, h1, h2⟩ := h; exact ⟨dx, xs, h1, Paired.mapR (f := fun p : Str × Sl => (p.1, p.2.mv (mvI js θ.length))) (fun _ _ r => ⟨r.1, Sl.mv_rep hl hj r.2⟩) h2⟩
theorem mapSl {F : Hp} {θ θ0 : List Addr} {f : Nat → Nat} (h : ∀ v s, RepS F θ v (Sl.mv f s) → RepS F θ0 v s) : ∀ {xs : List V} {ys : List Sl}, RepSL F θ xs (ys.map (Sl.mv f)) → RepSL F θ0 xs ys
  | [], [], _ => .nil
  | _ :: _, _ :: _, .cons r t => .cons (h _ _ r) (mapSl h t)
theorem OO.mv_per {F H : Hp} {θ θ0 : List Addr} {js : List Nat} {a : Addr} {u : OO} (hl : θ0.length = js.length) (hj : ∀ i j : Nat, js[i]? = some j → θ0[i]? = θ[j]? ∧ j < θ.length) (h : RepO F H θ a (u.mv (mvI js θ.length))) : RepO F H θ0 a u := by
  cases u with
  | gone => exact h
  | lst l => obtain ⟨xs, h1, h2⟩ := h; exact ⟨xs, h1, mapSl (fun _ _ r => Sl.mv_per hl hj r) h2⟩
  | dic l => obtain ⟨xs, h1, h2⟩ := h; exact ⟨xs, h1, Paired.mapL (f := fun p : Key × Sl => (p.1, p.2.mv (mvI js θ.length))) (fun _ _ r => ⟨r.1, Sl.mv_per hl hj r.2⟩) h2⟩
  | ins C l => obtain ⟨dx, xs, h1, h2⟩ := h; exact ⟨dx, xs, h1, Paired.mapL (f := fun p : Str × Sl => (p.1, p.2.mv (mvI js θ.length))) (fun _ _ r => ⟨r.1, Sl.mv_per hl hj r.2⟩) h2⟩
theorem OO.mv_gone {f : Nat → Nat} {u : OO} (h : u.mv f ≠ .gone) : u ≠ .gone := fun e => by subst e; exact h rfl
/-- how the callee sees what is handed to it -/
structure Hand (o1 : O) (js : List Nat) (ss : List Sl) (ss0 : List Sl) (o0 : O) : Prop where
  nd : js.Nodup
  len : o0.length = js.length
  ss : ss = ss0.map (Sl.mv (mvI js o1.length))
  ob : ∀ (i j : Nat), js[i]? = some j → ∃ u0, o0[i]? = some u0 ∧ o1[j]? = some (u0.mv (mvI js o1.length)) ∧ u0 ≠ .gone
theorem mv_ng {f : Nat → Nat} {u : OO} (h : u ≠ .gone) : u.mv f ≠ .gone := by
  cases u with
  | gone => exact absurd rfl h
  | lst l => intro z; cases z
  | dic l => intro z; cases z
  | ins C l => intro z; cases z
/-- the state behind a call -/
theorem call_back {F H : Hp} {θ θ0 : List Addr} {σ : L2.St} {js : List Nat} {ss ss0 : List Sl} {o0 o' : O} {F' H' : Hp} {θ' : List Addr} (k : Ok B F H θ σ ρ o) (hd : Hand o js ss ss0 o0) (hl : θ0.length = js.length) (hj : ∀ i j : Nat, js[i]? = some j → θ0[i]? = θ[j]? ∧ j < θ.length)
    (k' : Ok ⟨F, H, θ0⟩ F' H' θ' [] [] o') : ∃ t, θ' = θ0 ++ t ∧ Tw F H θ F' H' (θ ++ t) ∧ Ok B F' H' (θ ++ t) σ ρ (back o js o') := by
  obtain ⟨t, rfl⟩ := k'.tr.pre
  have hl0 : θ0.length = js.length := hl
  have in0 : ∀ a, a ∈ θ0 → a ∈ θ := fun a h => by
    obtain ⟨i, hi, e⟩ := List.getElem_of_mem h
    have hi2 : i < js.length := by rw [← hl]; exact hi
    obtain ⟨h1, h2⟩ := hj i _ (List.getElem?_eq_getElem hi2)
    rw [List.getElem?_eq_getElem hi, e] at h1
    exact List.mem_of_getElem? h1.symm
  have nd' := k'.nd
  have ndt : t.Nodup := (List.nodup_append.mp nd').2.1
  have dj : ∀ a, a ∈ θ → a ∉ t := fun a ha ht => by
    obtain ⟨w, hw⟩ := k.mem ha
    rcases k'.tr.nt a (List.mem_append_right _ ht) with q | q
    · exact (List.nodup_append.mp nd').2.2 a q a ht rfl
    · have q' : H a = none := q
      rw [hw] at q'; cases q'
  have tr : Tr F H θ F' H' (θ ++ t) := {
    ff := k'.tr.ff
    pre := ⟨t, rfl⟩
    kp := fun a w h n => k'.tr.kp a w h (fun z => n (in0 a z))
    th := fun a h => k'.tr.th a h
    nw := fun a w h => k'.tr.nw a w h
    nt := fun a h => by
      rcases List.mem_append.mp h with h | h
      · exact .inl h
      · rcases k'.tr.nt a (List.mem_append_right _ h) with q | q
        · exact .inl (in0 a q)
        · exact .inr q }
  have lo' : o'.length = js.length + t.length := by
    have := k'.len
    rw [List.length_append, hl] at this
    exact this.symm
  have ltake : ((o'.take js.length).map (OO.mv (mvI js o.length))).length = js.length := by
    rw [List.length_map, List.length_take]
    omega
  have cut : ∀ (j : Nat) a u, (θ ++ t)[j]? = some a → (back o js o')[j]? = some u →
      (j ∉ js ∧ θ[j]? = some a ∧ o[j]? = some u) ∨ ∃ (i : Nat) (u' : OO), (θ0 ++ t)[i]? = some a ∧ o'[i]? = some u' ∧ u = u'.mv (mvI js θ.length) := fun j a u h1 h2 => by
    unfold back at h2
    by_cases hjl : j < θ.length
    · rw [List.getElem?_append_left hjl] at h1
      rw [List.getElem?_append_left (by rw [setJ_len, ← k.len]; exact hjl)] at h2
      by_cases hm : j ∈ js
      · obtain ⟨i, hi, e⟩ := List.getElem_of_mem hm
        have hji : js[i]? = some j := by rw [List.getElem?_eq_getElem hi, e]
        rw [setJ_at js _ o i j hd.nd ltake hji (by rw [← k.len]; exact hjl)] at h2
        rw [List.getElem?_map, List.getElem?_take_of_lt hi] at h2
        cases e' : o'[i]? with
        | none => rw [e'] at h2; cases h2
        | some u' =>
          rw [e'] at h2
          refine .inr ⟨i, u', ?_, e', ?_⟩
          · rw [List.getElem?_append_left (by rw [hl]; exact hi), (hj i j hji).1]
            exact h1
          · rw [k.len]
            exact (Option.some.inj h2).symm
      · rw [setJ_ne js _ o j hm] at h2
        exact .inl ⟨hm, h1, h2⟩
    · rw [List.getElem?_append_right (by omega)] at h1
      rw [List.getElem?_append_right (by rw [setJ_len, ← k.len]; omega), setJ_len, ← k.len, List.getElem?_map, List.getElem?_drop] at h2
      cases e' : o'[js.length + (j - θ.length)]? with
      | none => rw [e'] at h2; cases h2
      | some u' =>
        rw [e'] at h2
        refine .inr ⟨js.length + (j - θ.length), u', ?_, e', (Option.some.inj h2).symm⟩
        rw [List.getElem?_append_right (by omega), hl]
        have e2 : js.length + (j - θ.length) - js.length = j - θ.length := by omega
        rw [e2]
        exact h1
  refine ⟨t, rfl, tr.w, k.tr.trans tr, k'.fh, ?_, ?_, fun j a u h1 h2 h3 => ?_, fun j a u h1 h2 => ?_, k.sl.mono tr.ff tr.pre⟩
  · unfold back
    rw [List.length_append, List.length_append, setJ_len, List.length_map, List.length_drop, k.len]
    omega
  · rw [List.nodup_append]
    exact ⟨k.nd, ndt, fun a ha b hb e => dj a ha (by rw [e]; exact hb)⟩
  · rcases cut j a u h1 h2 with ⟨hm, h1, h2⟩ | ⟨i, u', h1', h2', rfl⟩
    · cases q : F' a with
      | none => rfl
      | some w =>
        have fa := k.fr j a u h1 h2 h3
        rcases k'.tr.nw a w q with ⟨x, z⟩ | z
        · have z' : F a = some x := z
          rw [fa] at z'; cases z'
        · obtain ⟨x, hx⟩ := (k.ob j a u h1 h2).some
          have z' : H a = none := z
          rw [hx] at z'; cases z'
    · exact k'.fr i a u' h1' h2' (OO.mv_gone h3)
  · rcases cut j a u h1 h2 with ⟨hm, h1, h2⟩ | ⟨i, u', h1', h2', rfl⟩
    · refine ((k.ob j a u h1 h2).mono tr.ff tr.pre).at fun w h => k'.tr.kp a w h fun z => ?_
      obtain ⟨i, hi, e⟩ := List.getElem_of_mem z
      have hi2 : i < js.length := by rw [← hl]; exact hi
      obtain ⟨q1, q2⟩ := hj i _ (List.getElem?_eq_getElem hi2)
      have e1 : θ0[i]? = some a := (List.getElem?_eq_getElem hi).trans (congrArg some e)
      rw [e1] at q1
      obtain ⟨b1, b2⟩ := List.getElem?_eq_some_iff.mp h1
      obtain ⟨b3, b4⟩ := List.getElem?_eq_some_iff.mp q1.symm
      have ej : j = js[i] := (List.getElem_inj k.nd).mp (b2.trans b4.symm)
      exact hm (by rw [ej]; exact List.getElem_mem hi2)
    · exact OO.mv_rep hl hj (k'.ob i a u' h1' h2')
end
end AB

set_option Elab.async false
set_option linter.all false
set_option maxRecDepth 100000
set_option maxHeartbeats 4000000
set_option autoImplicit false
namespace AB
open PySem L2 PySem.Spec PyProof.Rows
/-! ### try: several clauses «except C as n», one name n -/
abbrev Cls := List (Value × (Addr → Value → Option Addr → TS))
/-- the ends of a clause's suite: behind it the name is gone -/
def offE (i : Nat) (D : Ends) : Ends :=
  { nx := fun σ H => D.nx (σ.set i none) H, rt := D.rt, bk := fun σ H => D.bk (σ.set i none) H, ct := fun σ H => D.ct (σ.set i none) H }
def wCl (K : PySem.W.Frag) (i : Nat) (Wout : WX) (D : Ends) : Cls → WX
  | [] => Wout
  | c :: r => fun cls d σ H => ∃ b, PySem.W.exmOne K cls c.1 = some b ∧ (b = true → ∀ a, H a = none → c.2 a cls d (offE i D) (σ.set i (some (.ref a))) H) ∧ (b = false → wCl K i Wout D r cls d σ H)
inductive ClsOk (X : Cx) (n : Str) : List ExceptHandler → Cls → Prop
  | nil : ClsOk X n [] []
  | cons {x : Str} {c : Value} {ts : Addr → Value → Option Addr → TS} {b0 : Stmt} {suite : List Stmt} {np pos' : Pos} {hds : List ExceptHandler} {l : Cls} (hc : Names X x c)
      (hsu : ∀ (a : Addr) (oe : Obj) (cls : Value) (d : Option Addr) (pn : List (Addr × Obj)), Zc cls d oe → (∃ vs, oe.data = .fields vs) → PSs (X.suite a ((a, oe) :: pn)) (b0 :: suite) (ts a cls d)) (r : ClsOk X n hds l) :
      ClsOk X n (.ExceptHandler (some (.Name x np)) (some n) (b0 :: suite) pos' :: hds) ((c, ts) :: l)
section
variable {X : Cx} {n : Str} {i : Nat} {body : List Stmt} {h0 : ExceptHandler} {hds : List ExceptHandler} {l : Cls} {pos : Pos} {tb : WX → TS} {Wout : WX}
theorem ps_tryA (hs : X.stack = X.env :: X.outer) (hf : X.env.frame = some X.env.locals) (hN : X.N.Nodup) (hi : X.N[i]? = some n) (hln : X.env.kindOf n = some .local) (tk : Takes X Wout)
    (hb : ∀ (W : WX) (pn : List (Addr × Obj)) (xe : Value → Shared → Prop), Takes (X.tr pn xe) W → PassesOwn (model X.prog X.w) X.A X.env xe → PSs (X.tr pn xe) body (tb W))
    (hh : ClsOk X n (h0 :: hds) l) : PS X (.Try body (h0 :: hds) [] [] pos) (fun D σ H => tb (wCl X.K i Wout D l) D σ H) := by
  constructor
  intro pins s σ H D I h
  have ok := I.ok
  have hfr : X.A.frames = some (X.env :: X.outer) := by rw [ok.frames, hs]
  have hloc : Loc X.env.scope n := .inl hln
  let xe2 : Value → Shared → Prop := fun e s1 =>
    wpAny (model X.prog X.w) X.A (noteFrame e X.env) (fun _ s2 =>
      wpAny (model X.prog X.w) X.A (setFlight e none) (fun _ s3 =>
        wpAny (model X.prog X.w) X.A (handleBy e X.env (h0 :: hds)) (SP X pins D) X.xe s3) X.xe s2) X.xe s1
  refine wpAny_Try_except ?_
  have hrun := (hb (wCl X.K i Wout D l) (X.pn ++ pins) xe2 (fun u s' xx => ?_) PassesOwn.looking).run [] s σ H D (I.toTry _) h
  · refine wpAny_mono hrun (fun f s1 hsp => ?_) (fun e s1 he => he)
    cases f with
    | next => obtain ⟨σ', H', J', q⟩ := hsp; exact wpAny_execs_nil ⟨σ', H', J'.ofTry ok, q⟩
    | brk => obtain ⟨σ', H', J', q⟩ := hsp; exact ⟨σ', H', J'.ofTry ok, q⟩
    | cont => obtain ⟨σ', H', J', q⟩ := hsp; exact ⟨σ', H', J'.ofTry ok, q⟩
    | ret u => obtain ⟨v, σ', H', J', r, q⟩ := hsp; exact ⟨v, σ', H', J'.ofTry ok, r, q⟩
  · obtain ⟨a, B, sI, pins', σ', H', cls, d, rfl, J', nb, up, sky, na, os, ag, w⟩ := xx
    have J : Inv X pins σ' H' sI := J'.ofTry ok
    have sky' : Sky B (X.env :: X.outer) a (Zc cls d) X.env.locals s'.heap := hs ▸ sky
    show wpAny (model X.prog X.w) X.A (noteFrame (.ref a) X.env) _ _ _
    refine Sky.land Zc.steady hfr hf sky' fun h3 fl3 up3 => ?_
    have J3 : Inv X pins σ' H' { s' with heap := h3 } := J.landed nb fl3.1 (up.trans up3) os ag
    obtain ⟨oe3, vs3, he3, hz3, hd3⟩ := fl3.there
    have nfr : a ∉ frs (X.env :: X.outer) := fun hm => by
      obtain ⟨_, o', e', hnf⟩ := fl3.2.2.1.mem hm
      have e2 : oe3 = o' := Option.some.inj (he3.symm.trans e')
      exact hnf _ (e2 ▸ hd3)
    have nL : a ≠ X.env.locals := fun z => nfr (List.mem_filterMap.mpr ⟨X.env, List.mem_cons_self, by rw [hf, z]⟩)
    have nF : a ∉ X.fs := fun hm => by
      obtain ⟨e, he, q⟩ := List.mem_filterMap.mp hm
      exact nfr (List.mem_filterMap.mpr ⟨e, List.mem_cons_of_mem _ he, q⟩)
    have S3 := J3.suite he3 hd3 na nL nF
    have go : ∀ {hs' : List ExceptHandler} {l' : Cls}, ClsOk X n hs' l' → wCl X.K i Wout D l' cls d σ' H' →
        wpAny (model X.prog X.w) X.A (handleBy (.ref a) X.env hs') (SP X pins D) X.xe { s' with heap := h3 } := by
      intro hs' l' hk
      induction hk with
      | nil =>
        intro w
        refine wpAny_handleBy_nil ?_
        obtain ⟨k1, k2, k3, oe, vs, T, oT, ts', he, hz, hd, h1, hr⟩ := id fl3
        unfold PySem.passOn
        refine wpAny_bind (wpAny_field he hd h1 ?_)
        have nn : ¬ ((Value.ref T == Value.none) = true) := by simp
        rw [if_neg nn]
        have fin : wpAny (model X.prog X.w) X.A (setFlight (.ref a) X.env.frame)
            (fun _ s4 => wpAny (model X.prog X.w) X.A (throw (.ref a) : Sem Flow) (SP X pins D) X.xe s4) X.xe { s' with heap := h3 } := by
          rw [hf]
          refine HandSPX.setFlight_upZ fl3 fun h4 hh4 up4 => wpAny_throw (tk _ _ ?_)
          refine ⟨a, B, sI, pins, σ', H', cls, d, rfl, J, nb, (up.trans up3).trans up4, .inr (.inr ?_), na, os, ag, w⟩
          rw [hs]
          exact hh4
        first
          | exact wpAny_bind (wpAny_pure (wpAny_bind fin))
          | exact wpAny_bind fin
      | @cons x c ts b0 suite np pos' hds2 l2 hc hsu r ih =>
        intro w
        obtain ⟨b, hb1, hyes, hno⟩ := w
        refine wpAny_handleBy_cons (codeAny_handlers_test ?_) (by intro q; cases q)
        have LT : PySem.W.Looks (model X.prog X.w) h3 (typeOf (.ref a)) cls := fun A Q E s k q =>
          wpAny_typeOf_ref (k _ _ he3) (by rw [hz3.1]; exact q)
        have LM := PySem.W.exm_one (M := model X.prog X.w) (J3.kIn) LT hb1
        have test : ∀ {Q : Value → Shared → Prop} {E : Value → Shared → Prop}, Q c { s' with heap := h3 } →
            wpAny (model X.prog X.w) (X.A.mark (some (.ref a))) (eval (.Name x np) X.env) Q E { s' with heap := h3 } := fun {Q E} q => by
          obtain ⟨hg, hdbg, hm | ⟨hm, hv, hnn⟩⟩ := hc
          · exact ld_glob (X := X.suite a ((a, oe3) :: (X.pn ++ pins))) S3 hg hm q hdbg
          · exact ld_blt (X := X.suite a ((a, oe3) :: (X.pn ++ pins))) S3 hg hm hv q hnn hdbg
        refine test (LM.here ?_)
        cases b with
        | false =>
          show wpAny _ X.A (handleBy (.ref a) X.env hds2) _ _ _
          exact ih (hno rfl)
        | true =>
          refine codeAny_handlers_suite_as ?_
          refine HandSPX.lands_againZ fl3 fun h4 fl4 up4 => ?_
          have J4 : Inv X pins σ' H' { s' with heap := h4 } := J.landed nb fl4.1 ((up.trans up3).trans up4) os ag
          obtain ⟨oe4, vs4, he4, hz4, hd4⟩ := fl4.there
          have S4 := J4.suite he4 hd4 na nL nF
          refine store_ok (X := X.suite a ((a, oe4) :: (X.pn ++ pins))) (v := .ref a) S4 hN hi hloc rfl (fun s5 S5 => ?_) (.inr hln)
          have hsuite := (hsu a oe4 cls d (X.pn ++ pins) hz4 ⟨_, hd4⟩).run [] s5 _ H' _ S5 (hyes rfl a na)
          refine wpAny_mono hsuite (fun f s6 hsp => ?_) (fun _ _ z => False.elim z)
          have leave : ∀ {σ6 : L2.St} {H6 : Hp} {Q : Shared → Prop}, Inv (X.suite a ((a, oe4) :: (X.pn ++ pins))) [] σ6 H6 s6 →
              (∀ s7, Inv X pins (σ6.set i none) H6 s7 → Q s7) →
              wpAny (model X.prog X.w) X.A (do bindName X.env n .none; unbindBehindTheSuite X.env n pos') (fun _ s7 => Q s7) X.xe s6 :=
            fun {σ6 H6 Q} S6 hq => gone_ok (S6.unsuite ok) hN hi hln hq
          cases f with
          | next => obtain ⟨σ6, H6, S6, q6⟩ := hsp; exact leave S6 fun s7 J7 => ⟨_, _, J7, q6⟩
          | brk => obtain ⟨σ6, H6, S6, q6⟩ := hsp; exact leave S6 fun s7 J7 => ⟨_, _, J7, q6⟩
          | cont => obtain ⟨σ6, H6, S6, q6⟩ := hsp; exact leave S6 fun s7 J7 => ⟨_, _, J7, q6⟩
          | ret u => obtain ⟨v6, σ6, H6, S6, r6, q6⟩ := hsp; exact leave S6 fun s7 J7 => ⟨_, _, _, J7, r6, q6⟩
    exact go hh w
end
end AB

set_option Elab.async false
set_option linter.all false
set_option maxRecDepth 100000
set_option maxHeartbeats 4000000
set_option autoImplicit false
namespace AB
open PySem L2 PySem.Spec PyProof.Rows
section
variable {B : Base} {ρ : R} {o : O} {P : Sl → O → Prop} {K : PySem.W.Frag} {D0 : AD} {te ta : TE}
/-! ### calls of defs -/
theorem hand_state {F H : Hp} {θ : List Addr} {σ : L2.St} {js : List Nat} {ss ss0 : List Sl} {vs : List V} {o0 : O} (k : Ok B F H θ σ ρ o) (hd : Hand o js ss ss0 o0) (r : RepSL F θ vs ss) :
    ∃ θ0 : List Addr, θ0.length = js.length ∧ (∀ i j : Nat, js[i]? = some j → θ0[i]? = θ[j]? ∧ j < θ.length) ∧ Ok ⟨F, H, θ0⟩ F H θ0 (vs.map some) (ss0.map some) o0 := by
  have lt : ∀ i j : Nat, js[i]? = some j → j < θ.length := fun i j h => by
    obtain ⟨u0, _, h2, _⟩ := hd.ob i j h
    rw [k.len]
    exact (List.getElem?_eq_some_iff.mp h2).1
  refine ⟨js.map fun j => (θ[j]?).getD 0, by rw [List.length_map], fun i j h => ⟨?_, lt i j h⟩, ?_⟩
  · rw [List.getElem?_map, h]
    show some ((θ[j]?).getD 0) = θ[j]?
    rw [List.getElem?_eq_getElem (lt i j h)]
    rfl
  have hl : (js.map fun j => (θ[j]?).getD 0).length = js.length := by rw [List.length_map]
  have hj : ∀ i j : Nat, js[i]? = some j → (js.map fun j => (θ[j]?).getD 0)[i]? = θ[j]? ∧ j < θ.length := fun i j h => ⟨by
    rw [List.getElem?_map, h]
    show some ((θ[j]?).getD 0) = θ[j]?
    rw [List.getElem?_eq_getElem (lt i j h)]
    rfl, lt i j h⟩
  generalize hθ : (js.map fun j => (θ[j]?).getD 0) = θ0 at hl hj
  have at0 : ∀ (i : Nat) a, θ0[i]? = some a → ∃ j, js[i]? = some j ∧ θ[j]? = some a := fun i a h => by
    have hi : i < js.length := by rw [← hl]; exact (List.getElem?_eq_some_iff.mp h).1
    refine ⟨js[i], List.getElem?_eq_getElem hi, ?_⟩
    rw [← (hj i _ (List.getElem?_eq_getElem hi)).1]
    exact h
  refine ⟨Tr.refl _ _ _, k.fh, by rw [hl, hd.len], ?_, fun i a u h1 h2 h3 => ?_, fun i a u h1 h2 => ?_, ?_⟩
  · refine List.pairwise_iff_getElem.mpr fun i i' hi hi' hlt e => ?_
    obtain ⟨j, q1, q2⟩ := at0 i _ (List.getElem?_eq_getElem hi)
    obtain ⟨j', q3, q4⟩ := at0 i' _ (List.getElem?_eq_getElem hi')
    rw [← e] at q4
    obtain ⟨b1, b2⟩ := List.getElem?_eq_some_iff.mp q2
    obtain ⟨b3, b4⟩ := List.getElem?_eq_some_iff.mp q4
    have ej : j = j' := (List.getElem_inj k.nd).mp (b2.trans b4.symm)
    subst ej
    obtain ⟨c1, c2⟩ := List.getElem?_eq_some_iff.mp q1
    obtain ⟨c3, c4⟩ := List.getElem?_eq_some_iff.mp q3
    have ei : i = i' := (List.getElem_inj hd.nd).mp (c2.trans c4.symm)
    omega
  · obtain ⟨j, q1, q2⟩ := at0 i a h1
    obtain ⟨u0, z1, z2, z3⟩ := hd.ob i j q1
    rw [h2] at z1
    cases z1
    exact k.fr j a _ q2 z2 (mv_ng z3)
  · obtain ⟨j, q1, q2⟩ := at0 i a h1
    obtain ⟨u0, z1, z2, z3⟩ := hd.ob i j q1
    rw [h2] at z1
    cases z1
    rw [← k.len] at z2
    exact OO.mv_per hl hj (k.ob j a _ q2 z2)
  · have r' : RepSL F θ vs (ss0.map (Sl.mv (mvI js θ.length))) := by
      have := hd.ss
      rw [← k.len] at this
      rw [← this]
      exact r
    have r0 : RepSL F θ0 vs ss0 := mapSl (fun v s h => Sl.mv_per hl hj h) r'
    refine ⟨by rw [List.length_map, List.length_map]; exact Paired.len r0, fun i s e => ?_⟩
    rw [List.getElem?_map] at e
    cases q : ss0[i]? with
    | none => rw [q] at e; cases e
    | some s' =>
      rw [q] at e
      have e' : s' = s := by simpa using e
      subst e'
      obtain ⟨v, h1, h2⟩ := r0.get q
      exact ⟨v, by rw [List.getElem?_map, h1]; rfl, h2⟩
theorem e_call {C : Con} {t : TA} {W : WX} (h : AA B t ρ o fun ss o1 => ∃ js ss0 o0, Hand o1 js ss ss0 o0 ∧ C ss0 o0 (fun s o' => P (s.mv (mvI js o1.length)) (back o1 js o')) (fun C' fs o' => AX B W ρ (back o1 js o') C' fs)) : AE B (tCallS (SpC C) (WE W) t) ρ o P := by
  intro F H θ σ k Q q
  refine h F H θ σ k _ fun vs ss F1 H1 θ1 o1 t1 k1 r1 p1 => ?_
  obtain ⟨js, ss0, o0, hd, c⟩ := p1
  obtain ⟨θ0, hl, hj, k0⟩ := hand_state k1 hd r1
  refine ⟨F1, θ0, ss0, o0, _, _, k0, c, fun v s F' H' θ' o' k' r p => ?_, fun C' dd fs ks F' H' θ' o' k' e r p => ?_⟩
  · obtain ⟨u, rfl, t2, k2⟩ := call_back k1 hd hl hj k'
    exact q v _ F' H' _ _ (t1.trans t2) k2 (by rw [← k1.len]; exact Sl.mv_rep hl hj r) p
  · obtain ⟨u, rfl, t2, k2⟩ := call_back k1 hd hl hj k'
    exact p F' H' _ σ dd ks k2 e r
/-- no own object is handed over -/
theorem hand0 {ds : List D} : Hand o [] (ds.map Sl.da) (ds.map Sl.da) [] :=
  ⟨List.nodup_nil, rfl, by rw [List.map_map]; rfl, fun i j h => by simp at h⟩
theorem back0 {o' : O} : back o [] o' = o ++ o'.map (OO.mv (mvI [] o.length)) := by
  unfold back setJ
  simp
theorem e_call0 {C : Con} {t : TA} {W : WX} (h : AA B t ρ o fun ss o1 => ∃ ds : List D, ss = ds.map Sl.da ∧ C (ds.map Sl.da) [] (fun s o' => P (s.mv (mvI [] o1.length)) (o1 ++ o'.map (OO.mv (mvI [] o1.length)))) (fun C' fs o' => AX B W ρ (o1 ++ o'.map (OO.mv (mvI [] o1.length))) C' fs)) : AE B (tCallS (SpC C) (WE W) t) ρ o P :=
  e_call fun F H θ σ k Q q => h F H θ σ k Q fun vs ss F' H' θ' o' t' k' r' p => by
    obtain ⟨ds, rfl, c⟩ := p
    exact q vs _ F' H' θ' o' t' k' r' ⟨[], _, [], hand0, by simpa only [back0] using c⟩
/-- one own object is handed over -/
theorem e_call1 {C : Con} {t : TA} {W : WX} (h : AA B t ρ o fun ss o1 => ∃ j ss0 u, ss = ss0.map (Sl.mv (mvI [j] o1.length)) ∧ o1[j]? = some (OO.mv (mvI [j] o1.length) u) ∧ u ≠ .gone ∧
    C ss0 [u] (fun s o' => P (s.mv (mvI [j] o1.length)) (back o1 [j] o')) (fun C' fs o' => AX B W ρ (back o1 [j] o') C' fs)) : AE B (tCallS (SpC C) (WE W) t) ρ o P :=
  e_call fun F H θ σ k Q q => h F H θ σ k Q fun vs ss F' H' θ' o' t' k' r' p => by
    obtain ⟨j, ss0, u, rfl, e, hg, c⟩ := p
    refine q vs _ F' H' θ' o' t' k' r' ⟨[j], ss0, [u], ⟨by simp, rfl, rfl, fun i j' h => ?_⟩, c⟩
    have hi : i = 0 := by
      cases i with
      | zero => rfl
      | succ n => simp at h
    subst hi
    have hj : j = j' := by simpa using h
    subst hj
    exact ⟨u, rfl, e, hg⟩
/-- a state of fewer claims: an own list of data that is lent stands as data -/
theorem Ok.lend {F H : Hp} {θ : List Addr} {σ : L2.St} {j : Nat} {ds : List D} (k : Ok B F H θ σ ρ o) (h : o[j]? = some (.lst (ds.map Sl.da))) :
    ∃ a xs, θ[j]? = some a ∧ H a = some (.lst xs) ∧ RepL F xs ds := by
  obtain ⟨a, ha, xs, h1, h2⟩ := k.own h
  exact ⟨a, xs, ha, h1, da_all h2⟩
/-! ### exceptions -/
theorem RepF.get {F : Hp} {f : Str} : ∀ {ks : List (Str × V)} {fs : List (Str × D)} {d : D}, RepF F ks fs → fs.lookup f = some d → ∃ v, ks.lookup f = some v ∧ Rep F v d
  | _, _, _, .nil, e => by cases e
  | _, _, _, @RepF.cons _ k v vs d ds h r, e => by
    by_cases q : f = k
    · subst q
      rw [List.lookup, beq_self_eq_true] at e
      cases e
      exact ⟨v, by rw [List.lookup, beq_self_eq_true], h⟩
    · have qb : (f == k) = false := by simpa using q
      rw [List.lookup, qb] at e
      obtain ⟨w, h1, h2⟩ := RepF.get r e
      exact ⟨w, by rw [List.lookup, qb]; exact h1, h2⟩
theorem e_xf {a dd C : Addr} {f : Str} (h : AE B te ρ o fun s o1 => ∃ fs d, s = .da (.exc a dd fs) ∧ fs.lookup f = some d ∧ P (.da d) o1) : AE B (tXf a (.ref C) (some dd) C f te) ρ o P := fun F H θ σ k Q q =>
  h F H θ σ k _ fun v s F1 H1 θ1 o1 t1 k1 r1 p1 => by
    obtain ⟨fs, d, rfl, e, p⟩ := p1
    cases r1 with
    | exc h1 h2 =>
      obtain ⟨w, h3, h4⟩ := h2.get e
      exact ⟨rfl, rfl, dd, _, w, rfl, k1.fh dd _ h1, h3, q w _ F1 H1 θ1 o1 t1 k1 (RepS.dat h4) p⟩
def offA (i : Nat) (D : AD) : AD := { nx := fun ρ o => D.nx (ρ.set i none) o, rt := D.rt, bk := fun ρ o => D.bk (ρ.set i none) o, ct := fun ρ o => D.ct (ρ.set i none) o }
def XCl (K : PySem.W.Frag) (i : Nat) (B : Base) (D0 : AD) (Xo : R → O → Addr → List (Str × D) → Prop) : Cls → R → O → Addr → List (Str × D) → Prop
  | [] => Xo
  | c :: r => fun ρ o C fs => ∃ b, PySem.W.exmOne K (.ref C) c.1 = some b ∧ (b = true → ∀ a dd, WS B (c.2 a (.ref C) (some dd)) (offA i D0) (ρ.set i (some (.da (.exc a dd fs)))) o) ∧ (b = false → XCl K i B D0 Xo r ρ o C fs)
/-- the base moved to where one stands -/
theorem Ok.rebase {F H F' H' : Hp} {θ θ' : List Addr} {σ σ' : L2.St} {ρ' : R} {o' : O} (k : Ok B F H θ σ ρ o) (k' : Ok ⟨F, H, θ⟩ F' H' θ' σ' ρ' o') : Ok B F' H' θ' σ' ρ' o' :=
  ⟨k.tr.trans k'.tr, k'.fh, k'.len, k'.nd, k'.fr, k'.ob, k'.sl⟩
theorem Ok.self {F H : Hp} {θ : List Addr} {σ : L2.St} (k : Ok B F H θ σ ρ o) : Ok ⟨F, H, θ⟩ F H θ σ ρ o := ⟨Tr.refl _ _ _, k.fh, k.len, k.nd, k.fr, k.ob, k.sl⟩
theorem s_try {i : Nat} {Wout : WX} {l : Cls} {tb : WX → TS} (Xo : R → O → Addr → List (Str × D) → Prop) (hX : ∀ ρ o C fs, Xo ρ o C fs → AX B Wout ρ o C fs)
    (h : ∀ B' W, (∀ ρ o C fs, XCl K i B D0 Xo l ρ o C fs → AX B' W ρ o C fs) → WS B' (tb W) D0 ρ o) : WS B (fun D σ H => tb (wCl K i Wout D l) D σ H) D0 ρ o := by
  intro F H θ σ k E hE
  have key : ∀ l : Cls, ∀ ρ o C fs, XCl K i B D0 Xo l ρ o C fs → AX ⟨F, H, θ⟩ (wCl K i Wout E l) ρ o C fs := by
    intro l
    induction l with
    | nil =>
      intro ρ' o' C fs x F' H' θ' σ' dd ks k' e r
      exact hX ρ' o' C fs x F' H' θ' σ' dd ks (k.rebase k') e r
    | cons c r ih =>
      intro ρ' o' C fs x F' H' θ' σ' dd ks k' e rf
      obtain ⟨b, hb, h1, h2⟩ := x
      refine ⟨b, hb, fun q a ha => ?_, fun q => ih ρ' o' C fs (h2 q) F' H' θ' σ' dd ks k' e rf⟩
      have k2 := k.rebase k'
      refine h1 q a dd F' H' θ' _ (k2.slots (k2.sl.set (v := .ref a) (RepS.dat (Rep.exc e rf)))) _ ?_
      have S := hE.on k'.tr.w
      exact ⟨fun F2 H2 θ2 σ2 ρ2 o2 t2 k3 p => S.nx F2 H2 θ2 _ _ o2 t2 (k3.slots (k3.sl.none none)) p, fun F2 H2 θ2 σ2 ρ2 o2 v s t2 k3 r p => S.rt F2 H2 θ2 σ2 ρ2 o2 v s t2 k3 r p,
        fun F2 H2 θ2 σ2 ρ2 o2 t2 k3 p => S.bk F2 H2 θ2 _ _ o2 t2 (k3.slots (k3.sl.none none)) p, fun F2 H2 θ2 σ2 ρ2 o2 t2 k3 p => S.ct F2 H2 θ2 _ _ o2 t2 (k3.slots (k3.sl.none none)) p⟩
  refine h ⟨F, H, θ⟩ (wCl K i Wout E l) (key l) F H θ σ k.self E ⟨fun F' H' θ' σ ρ o t k' p => hE.nx F' H' θ' σ ρ o t (k.rebase k') p, fun F' H' θ' σ ρ o v s t k' r p => hE.rt F' H' θ' σ ρ o v s t (k.rebase k') r p,
    fun F' H' θ' σ ρ o t k' p => hE.bk F' H' θ' σ ρ o t (k.rebase k') p, fun F' H' θ' σ ρ o t k' p => hE.ct F' H' θ' σ ρ o t (k.rebase k') p⟩
end
end AB

set_option Elab.async false
set_option linter.all false
set_option maxRecDepth 100000
set_option maxHeartbeats 4000000
set_option autoImplicit false
namespace AB
open PySem L2 PySem.Spec PyProof.Rows
/-! ### own objects changed -/
theorem pget_list {X : Cx} : PGet X (rIxL X.K) := by
  intro pins s σ H o i ov iv Q I ro ri h
  obtain ⟨p, xs, k, z, rfl, rfl, hq, he, q⟩ := h
  cases ro
  obtain ⟨t, rfl⟩ := ri
  obtain ⟨its, r, pl, hz⟩ := I.list hq
  obtain ⟨j, h1, h2, h3, h4, h5⟩ := atI_get he
  obtain ⟨w, ew, rw'⟩ := r.get h2
  have hl := r.length
  have hn := line63
  have fin : EP X pins σ Q w s := ⟨z, H, I, rw', q⟩
  obtain ⟨j', e1, e2⟩ := atI_eq he
  have hj' : j' = j := by
    obtain ⟨e3, _⟩ := ixN_seq e1
    rw [h1] at e3
    exact (Option.some.inj e3).symm
  subst hj'
  unfold ixN at e1
  by_cases h0 : 0 ≤ k
  · rw [if_pos h0, if_pos h5] at e1
    have ek : k.toNat = j' := Option.some.inj e1
    exact wpAny_getItem_list pl.isList h0 (by omega) (by rw [ek]; simpa using ew) fin
  · rw [if_neg h0, if_pos h4] at e1
    have ek : (k + xs.length).toNat = j' := Option.some.inj e1
    refine wpAny_getItem_list_neg pl.isList (by omega) (by simp; omega) (by omega) ?_ fin
    have e3 : (k + (its.toArray.size : Int)).toNat = j' := by
      rw [List.size_toArray, ← hl]
      exact ek
    rw [e3]
    simpa using ew
section
variable {B : Base} {ρ : R} {o : O} {P : Sl → O → Prop} {K : PySem.W.Frag} {D0 : AD} {te ta to ti tb : TE}
theorem ow_at {F H : Hp} {θ : List Addr} {σ : L2.St} {j : Nat} {ss : List Sl} {v : V} (k : Ok B F H θ σ ρ o) (h : o[j]? = some (.lst ss)) (r : RepS F θ v (.ow j)) : ∃ a xs, v = .ref a ∧ θ[j]? = some a ∧ H a = some (.lst xs) ∧ RepSL F θ xs ss := by
  obtain ⟨a, rfl, ha⟩ := r
  obtain ⟨b, hb, xs, h1, h2⟩ := k.own h
  rw [ha] at hb
  cases hb
  exact ⟨a, xs, rfl, ha, h1, h2⟩
/-- a method of a list -/
theorem e_bm {r : V → List V → Hp → VK → Prop} {t : TA} (h : AE B to ρ o fun x o1 => (∃ ss, LL o1 x ss) ∧ AA B t ρ o1 fun xs o2 => AM B r x xs o2 P) : AE B (tBM K "list" r to t) ρ o P := by
  intro F H θ σ k Q q
  refine h F H θ σ k _ fun v x F1 H1 θ1 o1 t1 k1 r1 p1 => ?_
  obtain ⟨⟨ss, hL⟩, p1⟩ := p1
  obtain ⟨a, xs, rfl, ha, rl⟩ := hL.at k1 r1
  refine ⟨.inl ⟨rfl, xs, SqL.of ha⟩, p1 F1 H1 θ1 σ k1 _ fun vs ys F2 H2 θ2 o2 t2 k2 r2 p2 => ?_⟩
  exact p2 F2 H2 θ2 σ ρ _ vs k2 (r1.mono t2.ff t2.pre) r2 Q fun w s F' H' θ' o' t3 k3 r3 p3 => q w s F' H' θ' o' ((t1.trans t2).trans t3) k3 r3 p3
theorem e_bm0 {r : V → List V → Hp → VK → Prop} (h : AE B to ρ o fun x o1 => (∃ ss, LL o1 x ss) ∧ AM B r x [] o1 P) : AE B (tBM0 K "list" r to) ρ o P := by
  intro F H θ σ k Q q
  refine h F H θ σ k _ fun v x F1 H1 θ1 o1 t1 k1 r1 p1 => ?_
  obtain ⟨⟨ss, hL⟩, p1⟩ := p1
  obtain ⟨a, xs, rfl, ha, rl⟩ := hL.at k1 r1
  exact ⟨.inl ⟨rfl, xs, SqL.of ha⟩, p1 F1 H1 θ1 σ ρ _ [] k1 r1 .nil Q fun w s F' H' θ' o' t3 k3 r3 p3 => q w s F' H' θ' o' (t1.trans t3) k3 r3 p3⟩
theorem m_append {j : Nat} {ss : List Sl} {y : Sl} (h : o[j]? = some (.lst ss)) (hl : ss.length < sizeLine) (p : P (.da .non) (o.set j (.lst (ss ++ [y])))) : AM B rAppend (.ow j) [y] o P := fun F H θ σ ρ v vs k r rs Q q => by
  cases rs with
  | @cons u _ _ _ ry rn =>
    cases rn
    obtain ⟨a, xs, rfl, hj, ha, rl⟩ := ow_at k h r
    refine ⟨a, xs, u, rfl, rfl, ha, by rw [Paired.len rl]; exact hl, ?_⟩
    obtain ⟨t2, k2⟩ := k.chg (u := .lst (xs ++ [u])) (w := .lst (ss ++ [y])) hj h (fun z => by cases z) ⟨_, upd_same, rl.app (.cons ry .nil)⟩ (fun z => by cases z)
    exact q _ _ _ _ _ _ t2.w k2 (RepS.dat Rep.non) p
theorem RepSL_dropLast {F : Hp} {θ : List Addr} : ∀ {vs : List V} {ss : List Sl}, RepSL F θ vs ss → RepSL F θ vs.dropLast ss.dropLast
  | _, _, .nil => .nil
  | _, _, .cons _ .nil => .nil
  | _, _, .cons h (.cons h2 r) => .cons h (RepSL_dropLast (.cons h2 r))
theorem m_pop {j : Nat} {ss : List Sl} {y : Sl} (h : o[j]? = some (.lst (ss ++ [y]))) (p : P y (o.set j (.lst ss))) : AM B rPop (.ow j) [] o P := fun F H θ σ ρ v vs k r rs Q q => by
  cases rs
  obtain ⟨a, xs, rfl, hj, ha, rl⟩ := ow_at k h r
  have hlen := Paired.len rl
  rw [List.length_append, List.length_singleton] at hlen
  obtain ⟨w, hw1, hw2⟩ := rl.get (i := ss.length) (s := y) (by rw [List.getElem?_append_right (Nat.le_refl _)]; simp)
  refine ⟨a, xs, w, rfl, rfl, ha, by rw [hlen]; simpa using hw1, ?_⟩
  have e : RepSL F θ xs.dropLast ss := by
    have := RepSL_dropLast rl
    simpa using this
  obtain ⟨t2, k2⟩ := k.chg (u := .lst xs.dropLast) (w := .lst ss) hj h (fun z => by cases z) ⟨_, upd_same, e⟩ (fun z => by cases z)
  exact q _ _ _ _ _ _ t2.w k2 (hw2.mono t2.ff t2.pre) p
theorem RepSL.set {F : Hp} {θ : List Addr} {v : V} {s : Sl} (r : RepS F θ v s) : ∀ {vs : List V} {ss : List Sl} (i : Nat), RepSL F θ vs ss → RepSL F θ (vs.set i v) (ss.set i s)
  | _, _, _, .nil => .nil
  | _, _, 0, .cons _ t => .cons r t
  | _, _, i + 1, .cons q t => .cons q (RepSL.set r i t)
/-- xs[i] = e -/
theorem g_set {s : Sl} {P : R → O → Prop} (h : AE B to ρ o fun x o1 => AE B ti ρ o1 fun y o2 => ∃ j ss i k, x = .ow j ∧ y = .da (.int i) ∧ o2[j]? = some (.lst ss) ∧ ixN ss.length i = some k ∧ P ρ (o2.set j (.lst (ss.set k s)))) : AG B (gSub to ti rSetL) s ρ o P := by
  intro F H θ σ v k0 r0 Q q
  refine h F H θ σ k0 _ fun x X F1 H1 θ1 o1 t1 k1 r1 p1 => ?_
  refine p1 F1 H1 θ1 σ k1 _ fun y Y F2 H2 θ2 o2 t2 k2 r2 p2 => ?_
  obtain ⟨j, ss, i, k, rfl, rfl, ho, hi, p⟩ := p2
  obtain ⟨a, xs, rfl, hj, ha, rl⟩ := ow_at k2 ho (r1.mono t2.ff t2.pre)
  have ey := rep_int r2
  subst ey
  have r0' := (r0.mono t1.ff t1.pre).mono t2.ff t2.pre
  obtain ⟨t3, k3⟩ := k2.chg (u := .lst (xs.set k v)) (w := .lst (ss.set k s)) hj ho (fun z => by cases z) ⟨_, upd_same, RepSL.set r0' k rl⟩ (fun z => by cases z)
  exact ⟨a, xs, i, k, rfl, rfl, ha, by rw [Paired.len rl]; exact hi, q _ _ _ _ _ _ ((t1.trans t2).trans t3.w) k3 p⟩
/-- xs[i] op= e -/
theorem s_augS {tip : TIp} (h : AE B to ρ o fun x o1 => AE B ti ρ o1 fun y o2 => ∃ j ss i k s, x = .ow j ∧ y = .da (.int i) ∧ o2[j]? = some (.lst ss) ∧ ixN ss.length i = some k ∧ ss[k]? = some s ∧
    AE B te ρ o2 fun z o3 => A2 B tip s z o3 fun w o4 => ∃ ss', o4[j]? = some (.lst ss') ∧ ixN ss'.length i = some k ∧ D0.nx ρ (o4.set j (.lst (ss'.set k w)))) : WS B (tAugS to ti te (rIxL K) tip rSetL) D0 ρ o := by
  intro F H θ σ k0 E hE
  refine h F H θ σ k0 _ fun x X F1 H1 θ1 o1 t1 k1 r1 p1 => ?_
  refine p1 F1 H1 θ1 σ k1 _ fun y Y F2 H2 θ2 o2 t2 k2 r2 p2 => ?_
  obtain ⟨j, ss, i, k, s, rfl, rfl, ho, hi, hs, p⟩ := p2
  have r1' := r1.mono t2.ff t2.pre
  obtain ⟨a, xs, rfl, hj, ha, rl⟩ := ow_at k2 ho r1'
  have ey := rep_int r2
  subst ey
  obtain ⟨w0, hw1, hw2⟩ := rl.get hs
  refine ⟨a, xs, i, w0, rfl, rfl, SqL.of ha, atI_of (by rw [Paired.len rl]; exact hi) hw1, ?_⟩
  refine p F2 H2 θ2 σ k2 _ fun z Z F3 H3 θ3 o3 t3 k3 r3 p3 => ?_
  refine p3 F3 H3 θ3 σ ρ w0 z k3 (hw2.mono t3.ff t3.pre) r3 _ fun w s' F4 H4 θ4 o4 t4 k4 r4 p4 => ?_
  obtain ⟨ss', ho', hi', p5⟩ := p4
  obtain ⟨a', xs', e, hj', ha', rl'⟩ := ow_at k4 ho' ((r1'.mono t3.ff t3.pre).mono t4.ff t4.pre)
  cases e
  obtain ⟨t5, k5⟩ := k4.chg (u := .lst (xs'.set k w)) (w := .lst (ss'.set k s')) hj' ho' (fun z => by cases z) ⟨_, upd_same, RepSL.set r4 k rl'⟩ (fun z => by cases z)
  exact ⟨a, xs', i, k, rfl, rfl, ha', by rw [Paired.len rl']; exact hi', hE.nx _ _ _ _ _ _ ((((t1.trans t2).trans t3).trans t4).trans t5.w) k5 p5⟩
theorem ip_I {f : Int → Int → Int} {i j : Int} (p : P (.da (.int (f i j))) o) : A2 B (ipI f) (.da (.int i)) (.da (.int j)) o P :=
  A2.of (z := .da (.int (f i j))) (fun F H θ σ ρ v u k r1 r2 Q q => ⟨i, j, rep_int r1, rep_int r2, q _ (Rep.int _)⟩) p
/-- d[k] = v -/
def putS (l : List (Key × Sl)) (k : Key) (v : Sl) : List (Key × Sl) := if (l.any fun kv => decide (kv.1 = k)) = true then l.map (fun kv => if kv.1 = k then (kv.1, v) else kv) else l ++ [(k, v)]
theorem RepSK.any {F : Hp} {θ : List Addr} {k : Key} : ∀ {ks : List (Key × V)} {ds : List (Key × Sl)}, RepSK F θ ks ds → (ks.any fun kv => decide (kv.1 = k)) = (ds.any fun kv => decide (kv.1 = k))
  | _, _, .nil => rfl
  | (k', v) :: vs, (k'', d) :: ds, .cons ⟨e0, h⟩ r => by
    obtain rfl : k' = k'' := e0
    simp only [List.any_cons]
    rw [RepSK.any r]
theorem RepSK.map {F : Hp} {θ : List Addr} {k : Key} {v : V} {s : Sl} (hv : RepS F θ v s) : ∀ {ks : List (Key × V)} {ds : List (Key × Sl)}, RepSK F θ ks ds → RepSK F θ (ks.map fun kv => if kv.1 = k then (kv.1, v) else kv) (ds.map fun kv => if kv.1 = k then (kv.1, s) else kv)
  | _, _, .nil => .nil
  | (k', w) :: vs, (k'', d) :: ds, .cons ⟨e0, h⟩ r => by
    obtain rfl : k' = k'' := e0
    rw [List.map_cons, List.map_cons]
    refine .cons ?_ (RepSK.map hv r)
    by_cases e : k' = k
    · show _ ∧ _
      dsimp only
      rw [if_pos e, if_pos e]
      exact ⟨rfl, hv⟩
    · show _ ∧ _
      dsimp only
      rw [if_neg e, if_neg e]
      exact ⟨rfl, h⟩
theorem RepSK.app {F : Hp} {θ : List Addr} {k : Key} {v : V} {s : Sl} (hv : RepS F θ v s) : ∀ {ks : List (Key × V)} {ds : List (Key × Sl)}, RepSK F θ ks ds → RepSK F θ (ks ++ [(k, v)]) (ds ++ [(k, s)])
  | _, _, .nil => .cons ⟨rfl, hv⟩ .nil
  | _, _, .cons h r => .cons h (RepSK.app hv r)
theorem RepSK.put {F : Hp} {θ : List Addr} {k : Key} {v : V} {s : Sl} {ks : List (Key × V)} {ds : List (Key × Sl)} (hv : RepS F θ v s) (r : RepSK F θ ks ds) : RepSK F θ (putK ks k v) (putS ds k s) := by
  unfold putK putS
  rw [r.any (k := k)]
  split
  · exact RepSK.map hv r
  · exact RepSK.app hv r
theorem s_dput {tv : TE} (h : AE B te ρ o fun s o1 => AE B to ρ o1 fun x o2 => AE B ti ρ o2 fun y o3 => ∃ j l k, x = .ow j ∧ y = .da (keyD k) ∧ o3[j]? = some (.dic l) ∧ l.length < sizeLine ∧ D0.nx ρ (o3.set j (.dic (putS l k s)))) : WS B (sDPut to ti te) D0 ρ o := by
  intro F H θ σ k0 E hE
  refine h F H θ σ k0 _ fun v s F1 H1 θ1 o1 t1 k1 r1 p1 => ?_
  refine p1 F1 H1 θ1 σ k1 _ fun x X F2 H2 θ2 o2 t2 k2 r2 p2 => ?_
  refine p2 F2 H2 θ2 σ k2 _ fun y Y F3 H3 θ3 o3 t3 k3 r3 p3 => ?_
  obtain ⟨j, l, kk, rfl, rfl, ho, hl, p⟩ := p3
  obtain ⟨a, rfl, ha⟩ := r2.mono t3.ff t3.pre
  obtain ⟨b, hb, ks, h1, rk⟩ := k3.own ho
  rw [ha] at hb
  cases hb
  have ey := rep_key r3
  subst ey
  have rv := (r1.mono t2.ff t2.pre).mono t3.ff t3.pre
  obtain ⟨t4, k4⟩ := k3.chg (u := .dK (putK ks kk v)) (w := .dic (putS l kk s)) ha ho (fun z => by cases z) ⟨_, upd_same, RepSK.put rv rk⟩ (fun z => by cases z)
  exact ⟨a, _, rfl, DPut.k h1 (by rw [Paired.len rk]; exact hl), hE.nx _ _ _ _ _ _ (((t1.trans t2).trans t3).trans t4.w) k4 p⟩
/-! ### slices -/
def AO (B : Base) (t : TO) (ρ : R) (o : O) (P : Option Int → O → Prop) : Prop :=
  ∀ F H θ σ, Ok B F H θ σ ρ o → ∀ Q : Option Int → Hp → Prop, (∀ b F' H' θ' o', Tw F H θ F' H' θ' → Ok B F' H' θ' σ ρ o' → P b o' → Q b H') → t σ H Q
theorem l_none {P : Option Int → O → Prop} (p : P none o) : AO B tNoPart ρ o P := fun F H θ σ k Q q => q none F H θ o (Tw.refl F H θ) k p
theorem l_some {P : Option Int → O → Prop} (h : AE B te ρ o fun s o1 => ∃ i, s = .da (.int i) ∧ P (some i) o1) : AO B (tPart te) ρ o P := fun F H θ σ k Q q =>
  h F H θ σ k _ fun v s F1 H1 θ1 o1 t1 k1 r1 ⟨i, e, p⟩ => by
    subst e
    have e := rep_int r1
    subst e
    exact ⟨i, rfl, q _ F1 H1 θ1 o1 t1 k1 p⟩
def A3 (B : Base) (r : V → Option Int → Option Int → Hp → VK → Prop) (x : Sl) (lo hi : Option Int) (o : O) (P : Sl → O → Prop) : Prop :=
  ∀ F H θ σ ρ v, Ok B F H θ σ ρ o → RepS F θ v x → ∀ Q : VK, (∀ w s F' H' θ' o', Tw F H θ F' H' θ' → Ok B F' H' θ' σ ρ o' → RepS F' θ' w s → P s o' → Q w H') → r v lo hi H Q
theorem e_sl {r : V → Option Int → Option Int → Hp → VK → Prop} {tl th : TO} (h : AE B te ρ o fun x o1 => AO B tl ρ o1 fun lo o2 => AO B th ρ o2 fun hi o3 => A3 B r x lo hi o3 P) : AE B (tSl r te tl th) ρ o P := by
  intro F H θ σ k Q q
  refine h F H θ σ k _ fun v x F1 H1 θ1 o1 t1 k1 r1 p1 => ?_
  refine p1 F1 H1 θ1 σ k1 _ fun lo F2 H2 θ2 o2 t2 k2 p2 => ?_
  refine p2 F2 H2 θ2 σ k2 _ fun hi F3 H3 θ3 o3 t3 k3 p3 => ?_
  exact p3 F3 H3 θ3 σ ρ v k3 ((r1.mono t2.ff t2.pre).mono t3.ff t3.pre) Q fun w s F' H' θ' o' t4 k4 r4 p4 => q w s F' H' θ' o' (((t1.trans t2).trans t3).trans t4) k4 r4 p4
theorem sl_str {z : Str} {lo hi : Option Int} (hl : z.length ≤ sizeLine) (p : P (.da (.str (cutS z lo hi))) o) : A3 B (rSlA K) (.da (.str z)) lo hi o P := fun F H θ σ ρ v k r Q q =>
  .inr ⟨z, rep_str r, hl, q _ _ F H θ o (Tw.refl F H θ) k (RepS.dat (Rep.str _)) p⟩
def cutD {α : Type} (xs : List α) (lo hi : Option Int) : List α := (xs.drop (HT.sIx xs.length 0 lo)).take (HT.sIx xs.length xs.length hi - HT.sIx xs.length 0 lo)
theorem sl_lst {ds : List D} {lo hi : Option Int} (p : P (.da (.lst (cutD ds lo hi))) o) : A3 B (rSlA K) (.da (.lst ds)) lo hi o P := fun F H θ σ ρ v k r Q q => by
  cases r with
  | @lst a xs _ ea rl =>
    refine .inl ⟨a, xs, rfl, SqL.of (k.fh a _ ea), fun l n => ?_⟩
    obtain ⟨t2, k2⟩ := k.put (u := .lst (cutV xs lo hi)) n
    have e : RepL F (cutV xs lo hi) (cutD ds lo hi) := by
      unfold cutV cutD
      rw [rl.len]
      exact (rl.drop _).take _
    exact q _ _ _ _ _ _ t2.w k2 (RepS.dat (Rep.lst upd_same (e.mono t2.ff))) p
end
end AB

set_option Elab.async false
set_option linter.all false
set_option maxRecDepth 100000
set_option maxHeartbeats 4000000
set_option autoImplicit false
namespace AB
open PySem L2 PySem.Spec PyProof.Rows He
/-! ### own exceptions whose __init__ says ApartError.__init__(self, text) and stores its arguments -/
/-- what the written part says of ApartError, at C -/
structure Apart (K : PySem.W.Frag) (mg : Str → Option Value) (C : Addr) : Prop where
  gC : mg "ApartError" = some (.ref C)
  ga : PySem.W.specialIn K (.ref C) "__getattribute__" = some (some (.builtin "type.__getattribute__"))
  rd : PySem.W.readsIn K C (.type "type") = true
  ini : PySem.W.findCls K (.ref C) (.type "type") "__init__" = some (.val (.builtin "ValueError.__init__"))
theorem pe_apI {X : Cx} {C : Addr} {ta : TA} {e : Expr} {es : List Expr} {p1 p2 pos : Pos} {pl : Sem Bool} (T : Apart X.K X.mg C) (hg : Gl X "ApartError") (ha : PA X (e :: es) ta)
    (hc : eval (.Call (.Attribute (.Name "ApartError" p1) "__init__" p2) (e :: es) [] pos) X.env = (do
      let ov ← eval (.Name "ApartError" p1) X.env
      standAt p2.atName
      let (f, first) ← holding [ov] (getMethod ov "__init__" pl)
      callWith pos f first (backTo pos (starEach (e :: es) X.env)) (backToKw pos (keywordEach [] X.env))) := by rfl)
    (he : starEach (e :: es) X.env = (false, eval e X.env) :: starEach es X.env := by rfl) (hpl : (backTo pos (starEach es X.env)).any (·.1) = false := by rfl) :
    PE X (.Call (.Attribute (.Name "ApartError" p1) "__init__" p2) (e :: es) [] pos) (tVeI X.K ta) := by
  constructor
  intro pins s σ H Q I h
  refine PySem.W.methodCall_KW (ld_glob I hg T.gC ?_) hc
  refine PySem.W.method_cls I.kIn T.ga (PySem.W.cls_value I.kIn T.rd T.ini (by decide +kernel) ?_)
  show wpAny _ _ (callWith pos (Value.builtin "ValueError.__init__") [] (backTo pos (starEach (e :: es) X.env)) []) _ _ _
  refine PyProof.Rows.callWith_method1 (thn (ha.run pos pins _ σ H _ (I.tok _) h) fun us s1 hh => ?_) he hpl
  obtain ⟨vs, H1, I1, r1, a, C', ws, ev, hl, T', ea, q⟩ := hh
  subst ev
  cases r1 with
  | @cons _ u0 _ ur ra rw' =>
    have e0 : u0 = Value.ref a := ra
    subst e0
    have hlen : ur.length ≤ sizeLine := by
      rw [← Paired.len rw', sizeLine_eq]
      omega
    exact oinit_ok T' I1 ea hlen fun s' J => ⟨.non, H1, J, rfl, q⟩
/-- fields by names, the last one first -/
def zipR {α : Type} : List Str → List α → List (Str × α) → List (Str × α)
  | f :: fs, y :: ys, acc => zipR fs ys ((f, y) :: acc)
  | _, _, acc => acc
structure ExF (K : PySem.W.Frag) (mg : Str → Option Value) (x : Str) (C fI : Addr) (fs : List Str) : Prop where
  gC : mg x = some (.ref C)
  ox : OexC K C
  iC : PySem.W.findIn K (.ref C) "__init__" = some (some (.ref fI))
  tI : PySem.W.typeIn K (.ref fI) = some (.type "function")
  no : ∀ f, f ∈ fs → PySem.W.findIn K (.ref C) f = some none
  xf : XfC K C
def spInit (C : Addr) (fs : List Str) : Sp := fun vs H Q _ => ∃ a ws, vs = .ref a :: ws ∧ ws.length = fs.length ∧ H a = some (exo a C none) ∧ ∀ d, H d = none → d ≠ a → Q .non (upd (upd H d (exd d (zipR fs ws []))) a (exo a C (some d)))
/-- the readings of such bodies: one field, two fields -/
theorem init1 {K : PySem.W.Frag} {C : Addr} {f m : Str} {vs : List V} {H : Hp} {Q : VK} {E : XK} {N : List Str} (hN : N.length = 2) (ox : OexC K C) (no : PySem.W.findIn K (.ref C) f = some none) (h : spInit C [f] vs H Q E) :
    tSeq (tDrop (tVeI K (tCons (tVar 0) (tCons (tC (.str m)) tNil)))) (tOst K f (tVar 0) (tVar 1)) { nx := fun _ H' => Q .non H', rt := Q } (L2.start N vs) H := by
  obtain ⟨a, ws, rfl, hl, ha, q⟩ := h
  match ws, hl with
  | [y], _ =>
    have e0 : (L2.start N [V.ref a, y])[0]? = some (some (V.ref a)) := rfl
    have e1 : (L2.start N [V.ref a, y])[1]? = some (some y) := rfl
    refine ⟨_, e0, a, C, [.str m], rfl, Nat.le_of_lt_succ (by show 1 < 1001; decide), ox, ha, ?_⟩
    exact ⟨_, e1, _, e0, a, C, rfl, ox, no, .inl ⟨ha, fun dx hn ne => q dx hn ne⟩⟩
theorem init2 {K : PySem.W.Frag} {C : Addr} {f g m : Str} {vs : List V} {H : Hp} {Q : VK} {E : XK} {N : List Str} (hN : N.length = 3) (ox : OexC K C) (no : PySem.W.findIn K (.ref C) f = some none) (no2 : PySem.W.findIn K (.ref C) g = some none) (h : spInit C [f, g] vs H Q E) :
    tSeq (tDrop (tVeI K (tCons (tVar 0) (tCons (tC (.str m)) tNil)))) (tSeq (tOst K f (tVar 0) (tVar 1)) (tOst K g (tVar 0) (tVar 2))) { nx := fun _ H' => Q .non H', rt := Q } (L2.start N vs) H := by
  obtain ⟨a, ws, rfl, hl, ha, q⟩ := h
  match ws, hl with
  | [y, z], _ =>
    have e0 : (L2.start N [V.ref a, y, z])[0]? = some (some (V.ref a)) := rfl
    have e1 : (L2.start N [V.ref a, y, z])[1]? = some (some y) := rfl
    have e2 : (L2.start N [V.ref a, y, z])[2]? = some (some z) := rfl
    refine ⟨_, e0, a, C, [.str m], rfl, Nat.le_of_lt_succ (by show 1 < 1001; decide), ox, ha, ?_⟩
    refine ⟨_, e1, _, e0, a, C, rfl, ox, no, .inl ⟨ha, fun dx hn ne => ?_⟩⟩
    refine ⟨_, e2, _, e0, a, C, rfl, ox, no2, .inr ⟨dx, [(f, y)], upd_same, ?_, (by show 1 ≤ 900; decide), ?_⟩⟩
    · rw [upd_ne ne]
      exact upd_same
    · have e : upd (upd (upd H dx (exd dx [(f, y)])) a (exo a C (some dx))) dx (exd dx [(g, z), (f, y)]) = upd (upd H dx (exd dx (zipR [f, g] [y, z] []))) a (exo a C (some dx)) := by
        funext b
        by_cases h1 : b = dx
        · subst h1
          rw [upd_same, upd_ne ne, upd_same]
          rfl
        · rw [upd_ne h1]
          by_cases h2 : b = a
          · rw [h2, upd_same, upd_same]
          · rw [upd_ne h2, upd_ne h2, upd_ne h1, upd_ne h1]
      show Q .non _
      rw [e]
      exact q dx hn ne
section
variable {B : Base} {ρ : R} {o : O} {D0 : AD}
theorem zipR_rep {F : Hp} : ∀ {fs : List Str} {vs : List V} {ds : List D} {acc : List (Str × V)} {acd : List (Str × D)}, RepL F vs ds → RepF F acc acd → RepF F (zipR fs vs acc) (zipR fs ds acd)
  | [], _, _, _, _, _, h => by unfold zipR; exact h
  | f :: fs, _, _, _, _, .nil, h => by unfold zipR; exact h
  | f :: fs, _, _, _, _, .cons r t, h => by
    unfold zipR
    exact zipR_rep t (.cons r h)
/-- raise C(e, ..) -/
theorem s_raise {C : Addr} {fs : List Str} {ta : TA} {W : WX} (h : AA B ta ρ o fun ss o1 => ∃ ds : List D, ss = ds.map Sl.da ∧ ds.length = fs.length ∧ ds.length ≤ 1000 ∧ AX B W ρ o1 C (zipR fs ds [])) :
    WS B (fun _ σ H => tMkO C (spInit C fs) [] ta σ H fun cls d H' => W cls d σ H') D0 ρ o := by
  intro F H θ σ k E hE
  refine h F H θ σ k _ fun vs ss F1 H1 θ1 o1 t1 k1 r1 p1 => ?_
  obtain ⟨ds, rfl, l1, l2, x⟩ := p1
  have rl := da_all r1
  have hl := rl.len
  refine ⟨by omega, fun a na => ⟨a, vs, by rw [List.append_nil], by omega, upd_same, fun d hd hne => ?_⟩⟩
  have nd : H1 d = none := by rwa [upd_ne hne] at hd
  refine ⟨rfl, d, zipR fs vs [], upd_same, ?_, nd, ?_⟩
  · rw [upd_ne hne]
    exact upd_same
  · obtain ⟨t2, k2⟩ := k1.put (u := .xd (zipR fs vs [])) nd
    have e : upd (del (upd (upd (upd H1 a (exo a C none)) d (exd d (zipR fs vs []))) a (exo a C (some d))) a) d (.xd (zipR fs vs [])) = upd H1 d (.xd (zipR fs vs [])) := by
      funext b
      by_cases h1 : b = d
      · rw [h1, upd_same, upd_same]
      · rw [upd_ne h1, upd_ne h1]
        by_cases h2 : b = a
        · rw [h2, del_same, na]
        · rw [del_ne h2, upd_ne h2, upd_ne h1, upd_ne h2]
    show W _ _ _ _
    rw [e]
    exact x _ _ _ _ d _ k2 upd_same (zipR_rep (rl.mono t2.ff) .nil)
end
/-- a class's facts as one Bool -/
def oexB (K : PySem.W.Frag) (C : Addr) : Bool := (match K.lookup C with
  | some ⟨.type "type", _, .cls ⟨_, _, .ref C' :: bm, _, _, true, _, _, _, _, false⟩, ⟨[_, _, _, _, some (.builtin "ValueError.__new__"), _]⟩⟩ => C' == C && PySem.HandSPX.refsVE bm
  | _ => false) && (decide (PySem.W.findIn K (.ref C) "__setattr__" = some (some (.builtin "object.__setattr__"))) && (decide (PySem.W.subIn K (.ref C) (.type "BaseException") = some true) && (decide (PySem.W.typeIn K (.ref C) = some (.type "type")) && PySem.W.keepIn K (.ref C))))
theorem oexB_ok {K : PySem.W.Frag} {C : Addr} (h : oexB K C = true) : OexC K C := by
  unfold oexB at h
  simp only [Bool.and_eq_true, decide_eq_true_eq] at h
  obtain ⟨h1, h2, h3, h4, h5⟩ := h
  refine ⟨?_, h2, h3, h4, h5⟩
  split at h1
  · rename_i dd nm bs C' bm N q sn sub ab col k0 k1 k2 k3 k5 hl
    simp only [Bool.and_eq_true, beq_iff_eq] at h1
    obtain ⟨e, h1⟩ := h1
    subst e
    exact ⟨nm, q, N, bs, bm, sn, sub, ab, col, dd, k0, k1, k2, k3, k5, hl, h1⟩
  · cases h1
def exfB (K : PySem.W.Frag) (x : Str) (fs : List Str) : Bool := oexB K (He.ga K x) && (decide (PySem.W.findIn K (.ref (He.ga K x)) "__init__" = some (some (.ref (He.ma K (He.ga K x) "__init__")))) && (decide (PySem.W.typeIn K (.ref (He.ma K (He.ga K x) "__init__")) = some (.type "function")) &&
  (fs.all (fun f => decide (PySem.W.findIn K (.ref (He.ga K x)) f = some none)) && (xfB K (He.ga K x) && (Fa.glo x).ok K))))
def apartB (K : PySem.W.Frag) : Bool := decide (PySem.W.specialIn K (.ref (He.ga K "ApartError")) "__getattribute__" = some (some (.builtin "type.__getattribute__"))) && (PySem.W.readsIn K (He.ga K "ApartError") (.type "type") &&
  ((match PySem.W.findCls K (.ref (He.ga K "ApartError")) (.type "type") "__init__" with
    | some (.val (.builtin "ValueError.__init__")) => true
    | _ => false) && (Fa.glo "ApartError").ok K))
end AB

set_option Elab.async false
set_option linter.all false
set_option maxRecDepth 100000
set_option maxHeartbeats 4000000
set_option autoImplicit false
namespace AB
open PySem L2 PySem.Spec PyProof.Rows He
section
variable {B : Base} {ρ : R} {o : O} {P : Sl → O → Prop} {K : PySem.W.Frag} {D0 : AD} {te : TE}
/-- a call to which all own objects are handed -/
theorem e_callA {C : Con} {t : TA} {W : WX} (h : AA B t ρ o fun ss o1 => C ss o1 P (fun C' fs o' => AX B W ρ o' C' fs)) : AE B (tCallS (SpC C) (WE W) t) ρ o P := by
  intro F H θ σ k Q q
  refine h F H θ σ k _ fun vs ss F1 H1 θ1 o1 t1 k1 r1 c => ?_
  refine ⟨F1, θ1, ss, o1, _, _, k1.self.slots ⟨by rw [List.length_map, List.length_map]; exact Paired.len r1, fun i s e => ?_⟩, c, fun v s F' H' θ' o' k' r p => ?_, fun C' dd fs ks F' H' θ' o' k' e r p => ?_⟩
  · rw [List.getElem?_map] at e
    cases q : ss[i]? with
    | none => rw [q] at e; cases e
    | some s' =>
      rw [q] at e
      have e' : s' = s := by simpa using e
      subst e'
      obtain ⟨v, h1, h2⟩ := r1.get q
      exact ⟨v, by rw [List.getElem?_map, h1]; rfl, h2⟩
  · exact q v s F' H' θ' o' (t1.trans k'.tr.w) ((k1.rebase k').slots (k1.sl.mono k'.tr.ff k'.tr.pre)) r p
  · exact p F' H' θ' σ dd ks ((k1.rebase k').slots (k1.sl.mono k'.tr.ff k'.tr.pre)) e r
/-! ### an own object of data comes to stay -/
theorem Ok.frz {F H : Hp} {θ : List Addr} {σ : L2.St} {j : Nat} {a : Addr} {u : HO} {w : OO} (k : Ok B F H θ σ ρ o) (hb : B.θ.length ≤ j) (ha : θ[j]? = some a) (ho : o[j]? = some w) (hw : w ≠ .gone) (hu : H a = some u) :
    Ok B (upd F a u) H θ σ ρ (o.set j .gone) ∧ Tw F H θ (upd F a u) H θ := by
  have fa := k.fr j a w ha ho hw
  have e := Ex.new (o := u) fa
  have nb : B.H a = none := by
    rcases k.tr.nt a (List.mem_of_getElem? ha) with q | q
    · exfalso
      obtain ⟨t, ht⟩ := k.tr.pre
      obtain ⟨i, hi, e'⟩ := List.getElem_of_mem q
      have h1 : θ[i]? = some a := by rw [ht, List.getElem?_append_left hi, List.getElem?_eq_getElem hi, e']
      obtain ⟨b1, b2⟩ := List.getElem?_eq_some_iff.mp h1
      obtain ⟨b3, b4⟩ := List.getElem?_eq_some_iff.mp ha
      have := (List.getElem_inj k.nd).mp (b2.trans b4.symm)
      omega
    · exact q
  refine ⟨⟨⟨k.tr.ff.trans e, k.tr.pre, k.tr.kp, k.tr.th, fun b v h => ?_, k.tr.nt⟩, fun b v h => ?_, by rw [List.length_set]; exact k.len, k.nd, fun i b v h1 h2 h3 => ?_, fun i b v h1 h2 => ?_, k.sl.mono e ⟨[], by simp⟩⟩, ⟨e, ⟨[], by simp⟩, fun _ _ h _ => h, fun _ h => h, fun _ h => .inl h, fun b v h h1 h2 => ?_⟩⟩
  · by_cases q : b = a
    · exact .inr (by rw [q]; exact nb)
    · rw [upd_ne q] at h; exact k.tr.nw b v h
  · by_cases q : b = a
    · rw [q, upd_same] at h; rw [q]; cases h; exact hu
    · rw [upd_ne q] at h; exact k.fh b v h
  · by_cases q : i = j
    · subst q
      rw [List.getElem?_set_self (List.getElem?_eq_some_iff.mp ho).1] at h2
      cases h2
      exact absurd rfl h3
    · rw [List.getElem?_set_ne (fun z => q z.symm)] at h2
      have hne : b ≠ a := fun z => by
        subst z
        obtain ⟨b1, b2⟩ := List.getElem?_eq_some_iff.mp h1
        obtain ⟨b3, b4⟩ := List.getElem?_eq_some_iff.mp ha
        exact q ((List.getElem_inj k.nd).mp (b2.trans b4.symm))
      rw [upd_ne hne]
      exact k.fr i b v h1 h2 h3
  · by_cases q : i = j
    · subst q
      rw [List.getElem?_set_self (List.getElem?_eq_some_iff.mp ho).1] at h2
      cases h2
      rw [ha] at h1
      cases h1
      exact ⟨u, hu⟩
    · rw [List.getElem?_set_ne (fun z => q z.symm)] at h2
      exact (k.ob i b v h1 h2).mono e ⟨[], by simp⟩
  · rw [upd_ne (fun z => h (by rw [z]; exact List.mem_of_getElem? ha))]
    exact h1
/-- data of own keys -/
theorem RepSK.data {F : Hp} {θ : List Addr} : ∀ {ks : List (Key × V)} {ds : List (Key × D)}, RepSK F θ ks (ds.map fun p => (p.1, Sl.da p.2)) → RepK F ks ds
  | [], [], _ => .nil
  | (_, _) :: _, (_, _) :: _, .cons ⟨e, r⟩ t => by
    dsimp only at e
    subst e
    exact .cons r (RepSK.data t)
inductive Frz : OO → D → Prop
  | lst (ds : List D) : Frz (.lst (ds.map Sl.da)) (.lst ds)
  | dic (ds : List (Key × D)) : Frz (.dic (ds.map fun p => (p.1, Sl.da p.2))) (.dic ds)
theorem Ok.frzD {F H : Hp} {θ : List Addr} {σ : L2.St} {j : Nat} {w : OO} {d : D} (k : Ok B F H θ σ ρ o) (hb : B.θ.length ≤ j) (ho : o[j]? = some w) (f : Frz w d) :
    ∃ a F', θ[j]? = some a ∧ Ok B F' H θ σ ρ (o.set j .gone) ∧ Tw F H θ F' H θ ∧ Rep F' (.ref a) d := by
  cases f with
  | lst ds =>
    obtain ⟨a, ha, xs, h1, h2⟩ := k.own ho
    obtain ⟨k', t'⟩ := k.frz hb ha ho (by intro z; cases z) h1
    exact ⟨a, _, ha, k', t', Rep.lst upd_same ((da_all h2).mono t'.ff)⟩
  | dic ds =>
    obtain ⟨a, ha, xs, h1, h2⟩ := k.own ho
    obtain ⟨k', t'⟩ := k.frz hb ha ho (by intro z; cases z) h1
    exact ⟨a, _, ha, k', t', Rep.dic upd_same (RepK.mono t'.ff (RepSK.data h2))⟩
theorem e_frz (h : AE B te ρ o fun s o1 => ∃ j w d, s = .ow j ∧ B.θ.length ≤ j ∧ o1[j]? = some w ∧ Frz w d ∧ P (.da d) (o1.set j .gone)) : AE B te ρ o P := fun F H θ σ k Q q =>
  h F H θ σ k Q fun v s F1 H1 θ1 o1 t1 k1 r1 p => by
    obtain ⟨j, w, d, rfl, hb, ho, f, p⟩ := p
    obtain ⟨a, F', ha, k', t', r'⟩ := k1.frzD hb ho f
    obtain ⟨a', rfl, ha'⟩ := r1
    rw [ha] at ha'
    cases ha'
    exact q _ _ F' H1 θ1 _ (t1.trans t') k' (RepS.dat r') p
theorem s_frz {t : TS} (i : Nat) {j : Nat} {w : OO} {d : D} (hi : ρ[i]? = some (some (.ow j))) (hb : B.θ.length ≤ j) (ho : o[j]? = some w) (f : Frz w d) (h : WS B t D0 (ρ.set i (some (.da d))) (o.set j .gone)) : WS B t D0 ρ o := fun F H θ σ k E hE => by
  obtain ⟨a, F', ha, k', t', r'⟩ := k.frzD hb ho f
  obtain ⟨v, h1, h2⟩ := k'.sl.at_ i _ hi
  obtain ⟨a', rfl, ha'⟩ := h2
  rw [ha] at ha'
  cases ha'
  refine h F' H θ σ (k'.slots ⟨by rw [List.length_set]; exact k'.sl.len, fun n s e => ?_⟩) E (hE.on t')
  by_cases q : n = i
  · subst q
    rw [List.getElem?_set_self (List.getElem?_eq_some_iff.mp hi).1] at e
    cases e
    exact ⟨_, h1, RepS.dat r'⟩
  · rw [List.getElem?_set_ne (fun z => q z.symm)] at e
    exact k'.sl.at_ n s e
/-! ### rules that were lacking -/
theorem ite_dec {p : Prop} {_ : Decidable p} {a b : Prop} (h1 : p → a) (h2 : ¬p → b) : if decide p = true then a else b := by
  by_cases h : p
  · simp only [h, decide_true, if_true]; exact h1 h
  · simp only [h, decide_false]; exact h2 h
theorem ite_ndec {p : Prop} {_ : Decidable p} {a b : Prop} (h1 : ¬p → a) (h2 : p → b) : if (!decide p) = true then a else b := by
  by_cases h : p
  · simp only [h, decide_true]; exact h2 h
  · simp only [h, decide_false]; exact h1 h
theorem ite_b {x : Bool} {a b : Prop} (h1 : x = true → a) (h2 : x = false → b) : if x = true then a else b := by
  cases x
  · exact h2 rfl
  · exact h1 rfl
theorem n_isi {x c : Sl} {b : Bool} (h : ∀ F H θ σ ρ v w, Ok B F H θ σ ρ o → RepS F θ v x → RepS F θ w c → ∃ t u, ClsV w u ∧ TyX K H v t ∧ PySem.W.kitOne K t u = some b) (p : P (.da (.bl b)) o) : AN B (rIsi K) [x, c] o P := fun F H θ σ ρ vs k r Q q => by
  cases r with
  | cons r1 r2 =>
    cases r2 with
    | cons r2 r3 =>
      cases r3
      obtain ⟨t, u, h1, h2, h3⟩ := h F H θ σ ρ _ _ k r1 r2
      exact ⟨_, _, t, u, b, rfl, h1, h2, h3, q _ _ F H θ o (Tw.refl F H θ) k (RepS.dat (Rep.bl b)) p⟩
/-- list + list, data -/
theorem o_addL {x y : Sl} {ds es : List D} (hx : LL o x (ds.map Sl.da)) (hy : LL o y (es.map Sl.da)) (hl : ds.length + es.length ≤ sizeLine) (p : P (.da (.lst (ds ++ es))) o) : A2 B rAddA x y o P := A2.or2 (A2.or2 (fun F H θ σ ρ v u k r1 r2 Q q => by
  obtain ⟨a, xs, rfl, h1, h2⟩ := hx.at k r1
  obtain ⟨b, ys, rfl, h3, h4⟩ := hy.at k r2
  have e1 := da_all h2
  have e2 := da_all h4
  refine ⟨a, b, xs, ys, rfl, rfl, h1, h3, ?_, fun l hn => ?_⟩
  · rw [e1.len, e2.len]; exact hl
  · obtain ⟨t2, k2⟩ := k.put (u := .lst (xs ++ ys)) hn
    exact q _ _ _ _ _ _ t2.w k2 (RepS.dat (Rep.lst upd_same ((e1.app e2).mono t2.ff))) p))
end
end AB

set_option Elab.async false
set_option linter.all false
set_option maxRecDepth 100000
set_option maxHeartbeats 4000000
set_option autoImplicit false
namespace AB
open PySem L2 PySem.Spec PyProof.Rows He
def W0 : WX := fun _ _ _ _ => False
theorem pe_gc {X : Cx} {x : Str} {v : V} {pos : Pos} (hg : Gl X x) (h : ∃ u, X.mg x = some u ∧ RelV v u) (hd : (x == ("__debug__" : Str)) = false := by decide) : PE X (.Name x pos) (tC v) := by
  obtain ⟨u, hm, r⟩ := h
  exact pe_glob hg hm r hd
def rSumA (K : PySem.W.Frag) : List V → Hp → VK → Prop := rSum K
theorem cr_sumA {X : Cx} (hc : X.calm = true) : CallR X (.builtin "sum") (rSumA X.K) := cr_sum hc
theorem n_sum {B : Base} {o : O} {P : Sl → O → Prop} {K : PySem.W.Frag} {x : Sl} {ns : List Int} (h : LL o x (ns.map fun i => Sl.da (.int i))) (p : P (.da (.int ns.sum)) o) : AN B (rSumA K) [x] o P := fun F H θ σ ρ vs k r Q q => by
  cases r with
  | cons r1 r2 =>
    cases r2
    obtain ⟨a, xs, rfl, h1, h2⟩ := h.at k r1
    rw [ints_of h2] at h1
    exact ⟨a, ns, rfl, SqL.of h1, q _ _ F H θ o (Tw.refl F H θ) k (RepS.dat (Rep.int _)) p⟩
/-- a def known by its contract -/
structure Cal (P : Program) (w : World) (K : PySem.W.Frag) (mg : Str → Option Value) (base : Heap) (k : Nat) (x : Str) (ps : List Str) (C : Con) : Prop where
  ex : ∃ f fd, FnOk P w K mg base (L2.CX P w) k f fd ps (SpC C) ∧ mg x = some (.ref f) ∧ PySem.W.keepIn K (.ref f) = true ∧ Binds K fd ps []
structure CalS (P : Program) (w : World) (K : PySem.W.Frag) (mg : Str → Option Value) (base : Heap) (k : Nat) (x : Str) (ps : List Str) (sp : Sp) : Prop where
  ex : ∃ f fd, FnOk P w K mg base (L2.CX P w) k f fd ps sp ∧ mg x = some (.ref f) ∧ PySem.W.keepIn K (.ref f) = true ∧ Binds K fd ps []
theorem pe_calS {X : Cx} {k j : Nat} {x : Str} {ps : List Str} {sp : Sp} {W : WX} {e : Expr} {es : List Expr} {t : TA} {p pos : Pos} (c : CalS X.prog X.w X.K X.mg X.base k x ps sp) (hr : Room j X.A) (hk : k ≤ j) (hg : Gl X x) (tk : Takes X W)
    (ha : PA X (e :: es) t) (hdb : (x == ("__debug__" : Str)) = false := by decide) (he : starEach (e :: es) X.env = (false, eval e X.env) :: starEach es X.env := by rfl) (hpl : (backTo pos (starEach es X.env)).any (·.1) = false := by rfl) :
    PE X (.Call (.Name x p) (e :: es) [] pos) (tCallS sp (WE W) t) := by
  obtain ⟨f, fd, F, hm, hk2, hb⟩ := c.ex
  exact pe_callS F (hr.mono hk) hg hm hk2 hb (passAt tk) ha hdb he hpl
theorem pe_cal {X : Cx} {k j : Nat} {x : Str} {ps : List Str} {C : Con} {W : WX} {e : Expr} {es : List Expr} {t : TA} {p pos : Pos} (c : Cal X.prog X.w X.K X.mg X.base k x ps C) (hr : Room j X.A) (hk : k ≤ j) (hg : Gl X x) (tk : Takes X W)
    (ha : PA X (e :: es) t) (hdb : (x == ("__debug__" : Str)) = false := by decide) (he : starEach (e :: es) X.env = (false, eval e X.env) :: starEach es X.env := by rfl) (hpl : (backTo pos (starEach es X.env)).any (·.1) = false := by rfl) :
    PE X (.Call (.Name x p) (e :: es) [] pos) (tCallS (SpC C) (WE W) t) := by
  obtain ⟨f, fd, F, hm, hk2, hb⟩ := c.ex
  exact pe_callS F (hr.mono hk) hg hm hk2 hb (passAt tk) ha hdb he hpl
/-- an own exception's __init__ -/
structure InitOk (P : Program) (w : World) (K : PySem.W.Frag) (mg : Str → Option Value) (base : Heap) (x : Str) (fs : List Str) : Prop where
  ex : ∃ fd ps, FnOk P w K mg base (L2.CX P w) 1 (ma K (ga K x) "__init__") fd ps (spInit (ga K x) fs) ∧ Binds K fd ps []
def tRaiseX (K : PySem.W.Frag) (x : Str) (fs : List Str) (W : WX) (ta : TA) : TS := fun _ σ H => tMkO (ga K x) (spInit (ga K x) fs) [] ta σ H fun cls d H' => W cls d σ H'
theorem ps_raiseX {X : Cx} {x : Str} {fs : List Str} {W : WX} {j : Nat} {e : Expr} {es : List Expr} {ta : TA} {p pos pos2 : Pos} (T : ExF X.K X.mg x (ga X.K x) (ma X.K (ga X.K x) "__init__") fs) (I : InitOk X.prog X.w X.K X.mg X.base x fs) (hr : Room j X.A) (tk : Takes X W) (ha : PA X (e :: es) ta)
    (hj : 2 ≤ j := by decide) (hc : X.calm = true := by rfl) (hg : Gl X x := by rfl) (hdb : (x == ("__debug__" : Str)) = false := by decide) (he : starEach (e :: es) X.env = (false, eval e X.env) :: starEach es X.env := by rfl) (hpl : (backTo pos (starEach es X.env)).any (·.1) = false := by rfl) :
    PS X (.Raise (some (.Call (.Name x p) (e :: es) [] pos)) none pos2) (tRaiseX X.K x fs W ta) := by
  obtain ⟨fd, ps, F, hb⟩ := I.ex
  exact ps_raise hc tk (pmk_oex T.ox T.iC T.tI F (hr.mono hj) hb .nil passL hg T.gC ha hdb he hpl)
theorem s_raiseX {B : Base} {ρ : R} {o : O} {D0 : AD} {K : PySem.W.Frag} {x : Str} {fs : List Str} {ta : TA} {W : WX} (h : AA B ta ρ o fun ss o1 => ∃ ds : List D, ss = ds.map Sl.da ∧ ds.length = fs.length ∧ ds.length ≤ 1000 ∧ AX B W ρ o1 (ga K x) (zipR fs ds [])) :
    WS B (tRaiseX K x fs W ta) D0 ρ o := s_raise h
/-- the def in a class's text -/
def initOf (s : Stmt) : Stmt := match s with
  | .ClassDef _ _ _ b _ _ _ _ _ _ _ => b.getD 0 (.Pass ⟨0, 0, 0, 0⟩)
  | _ => .Pass ⟨0, 0, 0, 0⟩
theorem init_len {C : Addr} {fs ps : List Str} (h : ps.length = fs.length + 1) : ∀ vs H Q E, spInit C fs vs H Q E → vs.length = ps.length := fun vs H Q E q => by
  obtain ⟨a, ws, rfl, hl, _⟩ := q
  rw [List.length_cons, hl, h]
/-- a def keeps its contract -/
theorem cal_of {P : Program} {w : World} {K : PySem.W.Frag} {mg : Str → Option Value} {base : Heap} {x : Str} {st : Stmt} {f : Addr} {fd : FuncData} {N ps : List Str} {k : Nat} {C : Con} {t : WX → TS} (F : Fun K x x st f fd) (S : FnScope N ps (defScope st)) (hm : mg x = some (.ref f)) (bd : Binds K fd ps [])
    (hl : ∀ ss o Rt Xt, C ss o Rt Xt → ss.length = ps.length)
    (dv : ∀ {cdv : Value} {A : Around} {outer : List Env} {s : Shared} {H : Hp} {E : XK}, Room k (A.deeper (envOfC x (defScope st) s.heap.objs.size f cdv)) → PSs (cxOf (L2.CX P w) P w K mg base N x (defScope st) f cdv A outer s H E) (defBody st) (t (fun cls d _ H => E cls d H)))
    (wf : ∀ B W ss o Rt Xt, B.θ.length = o.length → C ss o Rt Xt → (∀ ρ o C' fs, Xt C' fs o → AX B W ρ o C' fs) → WS B (t W) { nx := fun _ o => Rt (.da .non) o, rt := Rt } (ss.map some ++ List.replicate (N.length - ss.length) none) o) : Cal P w K mg base (k + 1) x ps C :=
  ⟨f, fd, Fun.okX F S (con_len hl) (fun cdv A outer s H vs Q E hr h => ⟨_, dv hr, con_run h fun B ss o Rt Xt hB c hX => wf B _ ss o Rt Xt hB c hX⟩), hm, F.kp, bd⟩
theorem exfB_ok {K : PySem.W.Frag} {h : Heap} {mg : Str → Option Value} (X : K.In h) (G : h.Ns mainGlobals mg) {x : Str} {fs : List Str} (c : exfB K x fs = true) : ExF K mg x (ga K x) (ma K (ga K x) "__init__") fs := by
  unfold exfB at c
  simp only [Bool.and_eq_true, decide_eq_true_eq, List.all_eq_true] at c
  obtain ⟨h1, h2, h3, h4, h5, h6⟩ := c
  exact ⟨glo_ok X G h6, oexB_ok h1, h2, h3, fun f hf => h4 f hf, xfB_ok h5⟩
theorem apartB_ok {K : PySem.W.Frag} {h : Heap} {mg : Str → Option Value} (X : K.In h) (G : h.Ns mainGlobals mg) (c : apartB K = true) : Apart K mg (ga K "ApartError") := by
  unfold apartB at c
  simp only [Bool.and_eq_true, decide_eq_true_eq] at c
  obtain ⟨h1, h2, h3, h4⟩ := c
  refine ⟨glo_ok X G h4, h1, h2, ?_⟩
  split at h3
  · assumption
  · cases h3
end AB

set_option Elab.async false
set_option linter.all false
set_option maxRecDepth 100000
set_option maxHeartbeats 4000000
set_option autoImplicit false
namespace AB
open PySem L2 PySem.Spec PyProof.Rows He
/-! ### frames, the purse -/
def Fp (o o' : O) : Prop := ∃ g, o' = o ++ g
theorem Fp.refl (o : O) : Fp o o := ⟨[], by simp⟩
theorem Fp.trans {a b c : O} (h : Fp a b) (h' : Fp b c) : Fp a c := by
  obtain ⟨g, rfl⟩ := h
  obtain ⟨g', rfl⟩ := h'
  exact ⟨g ++ g', by rw [List.append_assoc]⟩
theorem Fp.get {o o' : O} (h : Fp o o') {i : Nat} {u : OO} (e : o[i]? = some u) : o'[i]? = some u := by
  obtain ⟨g, rfl⟩ := h
  rw [List.getElem?_append_left (List.getElem?_eq_some_iff.mp e).1]
  exact e
def Pu (o : O) (j : Nat) : Prop := ∃ a b c : Int, o[j]? = some (.lst [.da (.int a), .da (.int b), .da (.int c)])
structure Fj (j : Nat) (o o' : O) : Prop where
  len : o.length ≤ o'.length
  get : ∀ i, i < o.length → i ≠ j → o'[i]? = o[i]?
  pu : Pu o' j
theorem Fj.refl {j : Nat} {o : O} (h : Pu o j) : Fj j o o := ⟨Nat.le_refl _, fun _ _ _ => rfl, h⟩
theorem Fj.trans {j : Nat} {a b c : O} (h : Fj j a b) (h' : Fj j b c) : Fj j a c :=
  ⟨Nat.le_trans h.len h'.len, fun i hi n => (h'.get i (Nat.lt_of_lt_of_le hi h.len) n).trans (h.get i hi n), h'.pu⟩
theorem Fj.at {j : Nat} {o o' : O} (h : Fj j o o') {i : Nat} {u : OO} (e : o[i]? = some u) (n : i ≠ j) : o'[i]? = some u := (h.get i (List.getElem?_eq_some_iff.mp e).1 n).trans e
theorem Pu.lt {o : O} {j : Nat} (h : Pu o j) : j < o.length := by
  obtain ⟨a, b, c, h⟩ := h
  exact (List.getElem?_eq_some_iff.mp h).1
theorem Fj.app {j : Nat} {o : O} (h : Pu o j) (g : O) : Fj j o (o ++ g) := by
  refine ⟨by simp, fun i hi _ => List.getElem?_append_left hi, ?_⟩
  obtain ⟨a, b, c, h⟩ := h
  exact ⟨a, b, c, by rw [List.getElem?_append_left (List.getElem?_eq_some_iff.mp h).1]; exact h⟩
/-- a change beyond the objects that were -/
theorem Fj.set {j i : Nat} {o o1 : O} {u : OO} (h : Fj j o o1) (hj : j < o.length) (hi : o.length ≤ i) : Fj j o (o1.set i u) := by
  refine ⟨by rw [List.length_set]; exact h.len, fun k hk n => ?_, ?_⟩
  · rw [List.getElem?_set_ne (by omega)]
    exact h.get k hk n
  · obtain ⟨a, b, c, q⟩ := h.pu
    exact ⟨a, b, c, by rw [List.getElem?_set_ne (by omega)]; exact q⟩
theorem Fj.add {j : Nat} {o o1 : O} (h : Fj j o o1) (g : O) : Fj j o (o1 ++ g) := h.trans (Fj.app h.pu g)
theorem Fp.set {i : Nat} {o o1 : O} {u : OO} (h : Fp o o1) (hi : o.length ≤ i) : Fp o (o1.set i u) := by
  obtain ⟨g, rfl⟩ := h
  exact ⟨g.set (i - o.length) u, by rw [List.set_append_right _ _ hi]⟩
theorem Fp.add {o o1 : O} (h : Fp o o1) (g : O) : Fp o (o1 ++ g) := h.trans ⟨g, rfl⟩
theorem Fp.len {o o1 : O} (h : Fp o o1) : o.length ≤ o1.length := by
  obtain ⟨g, rfl⟩ := h
  simp
theorem Fj.ofFp {j : Nat} {o o1 o2 : O} (h : Fj j o o1) (h' : Fp o1 o2) : Fj j o o2 := by
  obtain ⟨g, rfl⟩ := h'
  exact h.add g
theorem get_new {o : O} {u : OO} : (o ++ [u])[o.length]? = some u := by simp
theorem get_set {o : O} {i : Nat} {u : OO} (h : i < o.length) : (o.set i u)[i]? = some u := List.getElem?_set_self h
theorem LL.fp {o o' : O} {x : Sl} {ss : List Sl} (h : LL o x ss) (f : Fp o o') : LL o' x ss := by
  cases x with
  | ow j => exact f.get h
  | da d => cases d <;> exact h
/-! ### draws -/
def c_draw : Con := fun ss o Rt _ => ∃ (j : Nat) (n : Int), ss = [.ow j, .da (.int n)] ∧ 0 < n ∧ n < 2 ^ 62 ∧ Pu o j ∧ ∀ (r : Int) o', 0 ≤ r → r < n → o'.length = o.length → Fj j o o' → Rt (.da (.int r)) o'
/-! ### data that equal themselves -/
mutual
theorem eqv_refl : ∀ d : PyData, d.plain = true → PyData.eqv d d = true
  | .none, _ => rfl
  | .bool b, _ => by cases b <;> rfl
  | .int i, _ => by simp [PyData.eqv]
  | .str x, _ => by simp [PyData.eqv]
  | .list l, h => by
    unfold PyData.eqv
    exact eqvAll_refl l (by simpa [PyData.plain] using h)
  | .tuple l, h => by
    unfold PyData.eqv
    exact eqvAll_refl l (by simpa [PyData.plain] using h)
  | .dict _, h => by simp [PyData.plain] at h
theorem eqvAll_refl : ∀ l : List PyData, PyData.plainAll l = true → PyData.eqvAll l l = true
  | [], _ => rfl
  | d :: r, h => by
    unfold PyData.plainAll at h
    simp only [Bool.and_eq_true] at h
    unfold PyData.eqvAll
    rw [eqv_refl d h.1, eqvAll_refl r h.2]
    rfl
end
theorem eqv_str {x y : Str} : PyData.eqv (.str x) (.str y) = decide (x = y) := by simp [PyData.eqv, Bool.beq_eq_decide_eq]
theorem ite_tt {a b : Prop} (h : a) : if true = true then a else b := h
theorem ite_ff {a b : Prop} (h : b) : if false = true then a else b := by
  rw [if_neg (by decide)]
  exact h
theorem ite_ntt {a b : Prop} (h : b) : if (!true) = true then a else b := ite_ff h
theorem ite_nff {a b : Prop} (h : a) : if (!false) = true then a else b := ite_tt h
section
variable {B : Base} {ρ : R} {o : O} {P : Sl → O → Prop} {K : PySem.W.Frag} {D0 : AD} {tb : TS} {g : TG}
theorem kit_same {n : String} : PySem.W.kitOne K (.type n) (.type n) = some true := by
  unfold PySem.W.kitOne
  rw [if_pos (beq_self_eq_true _)]
theorem n_isiS {w : Str} (p : P (.da (.bl true)) o) : AN B (rIsi K) [.da (.str w), .da (.raw (.ty "str"))] o P := n_isi (fun F H θ σ ρ v u k r1 r2 => by
  cases r1
  cases r2
  exact ⟨_, _, .ty _, .base (.str _), kit_same⟩) p
theorem n_isiL {ds : List D} (p : P (.da (.bl true)) o) : AN B (rIsi K) [.da (.lst ds), .da (.raw (.ty "list"))] o P := n_isi (fun F H θ σ ρ v u k r1 r2 => by
  cases r1 with
  | lst e _ =>
    cases r2
    exact ⟨_, _, .ty _, .base (.lst (k.fh _ _ e)), kit_same⟩) p
theorem n_isiT {ds : List D} (p : P (.da (.bl true)) o) : AN B (rIsi K) [.da (.tup ds), .da (.raw (.ty "tuple"))] o P := n_isi (fun F H θ σ ρ v u k r1 r2 => by
  cases r1 with
  | tup e _ =>
    cases r2
    exact ⟨_, _, .ty _, .base (.tup (k.fh _ _ e)), kit_same⟩) p
/-- over the signs of a text -/
theorem s_forS {tl : TE} (h : AE B tl ρ o fun x o1 => ∃ z : Str, x = .da (.str z) ∧ ∃ Pv : Nat → R → O → Prop, Pv 0 ρ o1 ∧
    (∀ (i : Nat) c ρ' o', z.cps.toList[i]? = some c → Pv i ρ' o' → AG B g (.da (.str ⟨#[c]⟩)) ρ' o' fun ρ2 o2 => WS B tb { D0 with nx := Pv (i + 1), ct := Pv (i + 1), bk := D0.nx } ρ2 o2) ∧ ∀ ρ' o', Pv z.length ρ' o' → D0.nx ρ' o') :
    WS B (tFor (iSq K tl) g tb) D0 ρ o := by
  intro F H θ σ k E hE
  refine h F H θ σ k _ fun v x F1 H1 θ1 o1 t1 k1 r1 p1 => ?_
  obtain ⟨z, rfl, Pv, h0, hs, hd⟩ := p1
  have e0 := rep_str r1
  subst e0
  refine .inr (.inr ⟨z, rfl, ?_⟩)
  refine ⟨fun i m σ' H' => m = z.length - i ∧ i ≤ z.length ∧ ∃ F' θ' ρ' o', Tw F1 H1 θ1 F' H' θ' ∧ Ok B F' H' θ' σ' ρ' o' ∧ Pv i ρ' o', ⟨_, rfl, Nat.zero_le _, F1, θ1, ρ, o1, Tw.refl F1 H1 θ1, k1, h0⟩, ?_⟩
  intro i m σ' H' hw
  obtain ⟨rfl, hi, F', θ', ρ', o', t', k', p⟩ := hw
  by_cases hlt : i < z.length
  · refine .inr ⟨hlt, fun σ2 H2 => ∃ F2 θ2 ρ2 o2, Tw F1 H1 θ1 F2 H2 θ2 ∧ Ok B F2 H2 θ2 σ2 ρ2 o2 ∧ Pv (i + 1) ρ2 o2, fun σ2 H2 n => ⟨_, by omega, rfl, hlt, n⟩, fun y H'' q => ?_⟩
    obtain ⟨e1, c, hc, rfl⟩ := q
    subst e1
    refine hs i c ρ' o' (by rw [Array.getElem?_toList]; exact hc) p F' H'' θ' σ' _ k' (RepS.dat (Rep.str _)) _ fun F2 H2 θ2 σ2 ρ2 o2 t2 k2 p2 => ?_
    refine p2 F2 H2 θ2 σ2 k2 _ ⟨fun F3 H3 θ3 σ3 ρ3 o3 t3 k3 p3 => ⟨F3, θ3, ρ3, o3, (t'.trans t2).trans t3, k3, p3⟩, ?_, ?_, fun F3 H3 θ3 σ3 ρ3 o3 t3 k3 p3 => ⟨F3, θ3, ρ3, o3, (t'.trans t2).trans t3, k3, p3⟩⟩
    · exact fun F3 H3 θ3 σ3 ρ3 o3 v s t3 k3 r3 p3 => hE.rt F3 H3 θ3 σ3 ρ3 o3 v s (((t1.trans t').trans t2).trans t3) k3 r3 p3
    · exact fun F3 H3 θ3 σ3 ρ3 o3 t3 k3 p3 => hE.nx F3 H3 θ3 σ3 ρ3 o3 (((t1.trans t').trans t2).trans t3) k3 p3
  · have e : i = z.length := by omega
    subst e
    exact .inl ⟨Nat.le_refl _, hE.nx F' H' θ' σ' ρ' o' (t1.trans t') k' (hd ρ' o' p)⟩
/-- c in a text, c a sign -/
theorem o_notInC {c : Nat} {z : Str} (p : P (.da (.bl (!decide (c ∈ z.cps.toList)))) o) : A2 B (rNotInA K) (.da (.str ⟨#[c]⟩)) (.da (.str z)) o P := A2.or2 (A2.or2 (
  A2.of (z := .da (.bl (!decide (c ∈ z.cps.toList)))) (fun F H θ σ ρ v u k r1 r2 Q q => ⟨c, z, rep_str r1, rep_str r2, q _ (Rep.bl _)⟩) p))
theorem o_inC {c : Nat} {z : Str} (p : P (.da (.bl (decide (c ∈ z.cps.toList)))) o) : A2 B (rInA K) (.da (.str ⟨#[c]⟩)) (.da (.str z)) o P := A2.or2 (A2.or2 (
  A2.of (z := .da (.bl (decide (c ∈ z.cps.toList)))) (fun F H θ σ ρ v u k r1 r2 Q q => ⟨c, z, rep_str r1, rep_str r2, q _ (Rep.bl _)⟩) p))
end
theorem pyL_len : ∀ l : List D, (D.pyL l).length = l.length
  | [] => rfl
  | d :: r => by unfold D.pyL; rw [List.length_cons, List.length_cons, pyL_len r]
end AB

set_option Elab.async false
set_option linter.all false
set_option maxRecDepth 100000
set_option maxHeartbeats 4000000
set_option autoImplicit false
namespace AB
open PySem L2 PySem.Spec PyProof.Rows He
namespace K03
/-! ### the plain functions -/
def atM (n : Str) (t : Int) : Str := n ++ ("." : Str) ++ ((toString t : String) : Str)
def optD : Option Int → D
  | none => .non
  | some i => .int i
def optS : Option Str → D
  | none => .non
  | some s => .str s
def txs (l : List Str) : List D := l.map D.str
abbrev sls (l : List Str) : List Sl := (txs l).map Sl.da
def inF (c : Nat) : Bool := decide (97 ≤ c ∧ c ≤ 122)
def inR (c : Nat) : Bool := decide ((97 ≤ c ∧ c ≤ 122) ∨ (48 ≤ c ∧ c ≤ 57) ∨ c = 46)
def isW (w : Str) : Bool := decide (1 ≤ w.length ∧ w.length ≤ 12) && (((w.cps.toList.head?).map inF).getD false && (!(decide (w = ("if" : Str)) || decide (w = ("unless" : Str))) && w.cps.toList.all inR))
inductive Oc where
  | ok | bad (s : Str) | many (s : Str)
  deriving DecidableEq
def Oc.On (K : PySem.W.Frag) (r : Oc) (o : O) (okP : Prop) (Xt : Addr → List (Str × D) → O → Prop) : Prop := match r with
  | .ok => okP
  | .bad s => Xt (ga K "BadPattern") [("what", .str s)] o
  | .many s => Xt (ga K "TooMany") [("what", .str s)] o
def farN (n : Option Int) : Bool := match n with
  | none => false
  | some i => decide (1000000000 < i) || decide (i < -1000000000)
def chk (names : List Str) (first last : Int) (ns : List (Option Int)) (wrong : Bool) : Oc :=
  if 24 < last then .many "moments" else
  if ns.any farN = true then .many "numbers" else
  if first < 0 ∨ last < first then .bad "moments" else
  if (names.any fun n => !isW n || !isW (atM n last)) = true then .bad "name" else
  if wrong = true then .bad "number" else .ok
def belowZ (n : Option Int) : Bool := match n with
  | none => false
  | some i => decide (i < 0)
def crossd (a b : Option Int) : Bool := match a, b with
  | some i, some j => decide (j < i)
  | _, _ => false
abbrev Row3 := Option Str × Option Str × Int
def side (yes no : List Str) (r : Row3) : D := .tup [optS r.1, optS r.2.1, .int r.2.2, .lst (txs yes), .lst (txs no)]
def side3 (r : Row3) : D := .tup [optS r.1, optS r.2.1, .int r.2.2]
def many (first last : Int) : Nat := (last + 1 - first).toNat
def rowsU {α : Type} (f : Int → List α) (first : Int) (n : Nat) : List α := (List.range n).flatMap fun (k : Nat) => f (first + (k : Int))
theorem rowsU_succ {α : Type} (f : Int → List α) (first : Int) (n : Nat) : rowsU f first (n + 1) = rowsU f first n ++ f (first + n) := by
  unfold rowsU
  rw [List.range_succ, List.flatMap_append]
  simp
theorem rowsU_len {α : Type} {f : Int → List α} {first : Int} (h : ∀ t, (f t).length ≤ 2) : ∀ n, (rowsU f first n).length ≤ 2 * n
  | 0 => by simp [rowsU]
  | n + 1 => by
    rw [rowsU_succ, List.length_append]
    have := rowsU_len (first := first) h n
    have := h (first + n)
    omega
def fStock (a b : Str) (low high : Option Int) (t : Int) : List Row3 := (match low with
  | some l => [(some (atM b t), some (atM a t), -l)]
  | none => []) ++ (match high with
  | some h => [(some (atM a t), some (atM b t), h)]
  | none => [])
def fAfter (a b : Str) (first wait : Int) (t : Int) : List Row3 := [(some (atM a t), (if t - wait < first then none else some (atM b (t - wait))), 0)]
def fWithin (a b : Str) (last stay : Int) (t : Int) : List Row3 := if t + stay ≤ last then [(some (atM a t), some (atM b (t + stay)), 0)] else []
def fLoss (a b : Str) (low many : Int) (t : Int) : List Row3 := [(some (atM b t), some (atM a t), -low - many)]
def fTurn (a b : Str) (own : Int) (t : Int) : List Row3 := [(some (atM a t), some (atM b t), own)]
def fLine (a : Str) (first : Int) (slow fast : Option Int) (t : Int) : List Row3 := (match slow with
  | some l => if first < t then [(some (atM a (t - 1)), some (atM a t), -l)] else []
  | none => []) ++ (match fast with
  | some h => if first < t then [(some (atM a t), some (atM a (t - 1)), h)] else []
  | none => [])
def dLine (a : Str) (helper least most : Int) (t : Int) : List D := [.tup [.str (atM a t), .int helper, .int t, .int least, .int most]]
def dRoad (s r lag : Int) (t : Int) : List D := [.tup [.int s, .int t, .int r, .int (t + lag), .lst [], .lst []]]
def dSight (a : Str) (helper : Int) (t : Int) : List D := [.tup [.str a, .int helper, .int t, .non, .int 0]]
/-- a family's answer -/
def callS (kind : Int) (a b : Str) (first last : Int) (low high : Option Int) (mn helper least most : Int) (yes no : List Str) : Oc × D :=
  if kind = 0 then (chk [a, b] first last [low, high] (belowZ high || crossd low high), .lst ((rowsU (fStock a b low high) first (many first last)).map (side yes no)))
  else if kind = 1 then (chk [a, b] first last [some mn] (decide (mn < 0)), .lst ((rowsU (fAfter a b first mn) first (many first last)).map (side yes no)))
  else if kind = 2 then (chk [a, b] first last [some mn] (decide (mn < 0)), .lst ((rowsU (fWithin a b last mn) first (many first last)).map (side yes no)))
  else if kind = 3 then (chk [a] last last [some mn] (decide (mn < 0)), .lst [side yes no (none, some (atM a last), -mn)])
  else if kind = 4 then (chk [a, b] first last [low, some mn] (decide (mn < 0)), .lst ((rowsU (fLoss a b (low.getD 0) mn) first (many first last)).map (side yes [])))
  else if kind = 5 then (chk [a, b] first last [some mn] (decide (mn < 0)), .lst ((rowsU (fTurn a b mn) first (many first last)).map (side yes no)))
  else if kind = 6 then (chk [a] first last [some least, some most, low, high] (belowZ high || crossd low high), .tup [.lst (rowsU (dLine a helper least most) first (many first last)), .lst ((rowsU (fLine a first low high) first (many first last)).map (side [] []))])
  else if kind = 7 then (chk [] first last [some mn] (decide (mn < 1)), .lst (rowsU (dRoad helper (helper + 1) mn) first (many first last)))
  else ((match chk [] first last [] false with
    | .ok => if isW a = true then .ok else .bad "name"
    | r => r), .lst (rowsU (dSight a helper) first (many first last)))
def told (r : Oc × D) : D := match r.1 with
  | .ok => .tup [.str "let", r.2]
  | .bad s => .tup [.str "pattern", .str s]
  | .many s => .tup [.str "many", .str s]
/-! ### contracts of the package's functions -/
section
def c_check_most (K : PySem.W.Frag) : Con := fun ss o Rt Xt => ∃ (w : Str) (m n : Int), ss = [.da (.str w), .da (.int m), .da (.int n)] ∧ (n < m → Xt (ga K "TooMany") [("what", .str w)] o) ∧ (¬ n < m → Rt (.da .non) o)
def c_check_numbers (K : PySem.W.Frag) : Con := fun ss o Rt Xt => ∃ (ns : List Int), ss = [.da (.lst (ns.map D.int)), .da (.int 1000000000)] ∧ ((ns.any fun i => farN (some i)) = true → Xt (ga K "TooMany") [("what", .str "numbers")] o) ∧ ((ns.any fun i => farN (some i)) = false → Rt (.da .non) o)
def c_is_word (K : PySem.W.Frag) : Con := fun ss o Rt _ => ∃ w : Str, ss = [.da (.str w)] ∧ w.length ≤ sizeLine ∧ Rt (.da (.bl (isW w))) o
def c_at_moment (K : PySem.W.Frag) : Con := fun ss o Rt _ => ∃ (n : Str) (t : Int), ss = [.da (.str n), .da (.int t)] ∧ n.length ≤ 1000 ∧ 0 ≤ t ∧ t ≤ 1000 ∧ Rt (.da (.str (atM n t))) o
def c_check_pattern (K : PySem.W.Frag) : Con := fun ss o Rt Xt => ∃ (names : List Str) (first last : Int) (ns : List (Option Int)) (wrong : Bool), ss = [.da (.lst (txs names)), .da (.int first), .da (.int last), .da (.lst (ns.map optD)), .da (.bl wrong)] ∧ (∀ n, n ∈ names → n.length ≤ 1000) ∧ ns.length ≤ 1000 ∧
  (chk names first last ns wrong).On K o (Rt (.da .non) o) Xt
def c_below_zero (K : PySem.W.Frag) : Con := fun ss o Rt _ => ∃ n : Option Int, ss = [.da (optD n)] ∧ Rt (.da (.bl (belowZ n))) o
def c_crossed (K : PySem.W.Frag) : Con := fun ss o Rt _ => ∃ a b : Option Int, ss = [.da (optD a), .da (optD b)] ∧ Rt (.da (.bl (crossd a b))) o
def c_line_rows (K : PySem.W.Frag) : Con := fun ss o Rt Xt => ∃ (a : Str) (helper first last least most : Int) (slow fast : Option Int), ss = [.da (.str a), .da (.int helper), .da (.int first), .da (.int last), .da (.int least), .da (.int most), .da (optD slow), .da (optD fast)] ∧ a.length ≤ 1000 ∧
  (callS 6 a a first last slow fast 0 helper least most [] []).1.On K o (∀ o', Fp o o' → Rt (.da (callS 6 a a first last slow fast 0 helper least most [] []).2) o') Xt
def c_after_rows (K : PySem.W.Frag) : Con := fun ss o Rt Xt => ∃ (a b : Str) (first last mn : Int) (x y : Sl) (yes no : List Str), ss = [.da (.str a), .da (.str b), .da (.int first), .da (.int last), .da (.int mn), x, y] ∧ LL o x (sls yes) ∧ LL o y (sls no) ∧ a.length ≤ 1000 ∧ b.length ≤ 1000 ∧
  (callS 1 a b first last none none mn 0 0 0 yes no).1.On K o (∀ o', Fp o o' → Rt (.da (callS 1 a b first last none none mn 0 0 0 yes no).2) o') Xt
def c_within_rows (K : PySem.W.Frag) : Con := fun ss o Rt Xt => ∃ (a b : Str) (first last mn : Int) (x y : Sl) (yes no : List Str), ss = [.da (.str a), .da (.str b), .da (.int first), .da (.int last), .da (.int mn), x, y] ∧ LL o x (sls yes) ∧ LL o y (sls no) ∧ a.length ≤ 1000 ∧ b.length ≤ 1000 ∧
  (callS 2 a b first last none none mn 0 0 0 yes no).1.On K o (∀ o', Fp o o' → Rt (.da (callS 2 a b first last none none mn 0 0 0 yes no).2) o') Xt
def c_due_rows (K : PySem.W.Frag) : Con := fun ss o Rt Xt => ∃ (a : Str) (t mn : Int) (x y : Sl) (yes no : List Str), ss = [.da (.str a), .da (.int t), .da (.int mn), x, y] ∧ LL o x (sls yes) ∧ LL o y (sls no) ∧ a.length ≤ 1000 ∧
  (callS 3 a a t t none none mn 0 0 0 yes no).1.On K o (∀ o', Fp o o' → Rt (.da (callS 3 a a t t none none mn 0 0 0 yes no).2) o') Xt
def c_turn_rows (K : PySem.W.Frag) : Con := fun ss o Rt Xt => ∃ (a b : Str) (first last mn : Int) (x y : Sl) (yes no : List Str), ss = [.da (.str a), .da (.str b), .da (.int first), .da (.int last), .da (.int mn), x, y] ∧ LL o x (sls yes) ∧ LL o y (sls no) ∧ a.length ≤ 1000 ∧ b.length ≤ 1000 ∧
  (callS 5 a b first last none none mn 0 0 0 yes no).1.On K o (∀ o', Fp o o' → Rt (.da (callS 5 a b first last none none mn 0 0 0 yes no).2) o') Xt
def c_road_letters (K : PySem.W.Frag) : Con := fun ss o Rt Xt => ∃ (first last mn helper : Int), ss = [.da (.int helper), .da (.int (helper + 1)), .da (.int first), .da (.int last), .da (.int mn)] ∧
  (callS 7 "" "" first last none none mn helper 0 0 [] []).1.On K o (∀ o', Fp o o' → Rt (.da (callS 7 "" "" first last none none mn helper 0 0 [] []).2) o') Xt
def c_watch_sights (K : PySem.W.Frag) : Con := fun ss o Rt Xt => ∃ (a : Str) (first last helper : Int), ss = [.da (.str a), .da (.int helper), .da (.int first), .da (.int last)] ∧ a.length ≤ 1000 ∧
  (callS 8 a "" first last none none 0 helper 0 0 [] []).1.On K o (∀ o', Fp o o' → Rt (.da (callS 8 a "" first last none none 0 helper 0 0 [] []).2) o') Xt
def c_stock_rows (K : PySem.W.Frag) : Con := fun ss o Rt Xt => ∃ (a b : Str) (first last : Int) (low high : Option Int) (x y : Sl) (yes no : List Str), ss = [.da (.str a), .da (.str b), .da (.int first), .da (.int last), .da (optD low), .da (optD high), x, y] ∧ LL o x (sls yes) ∧ LL o y (sls no) ∧ a.length ≤ 1000 ∧ b.length ≤ 1000 ∧
  (callS 0 a b first last low high 0 0 0 0 yes no).1.On K o (∀ o', Fp o o' → Rt (.da (callS 0 a b first last low high 0 0 0 0 yes no).2) o') Xt
def c_loss_rows (K : PySem.W.Frag) : Con := fun ss o Rt Xt => ∃ (a b : Str) (first last low mn : Int) (x : Sl) (yes : List Str), ss = [.da (.str a), .da (.str b), .da (.int first), .da (.int last), .da (.int low), .da (.int mn), x] ∧ LL o x (sls yes) ∧ a.length ≤ 1000 ∧ b.length ≤ 1000 ∧
  (callS 4 a b first last (some low) none mn 0 0 0 yes []).1.On K o (∀ o', Fp o o' → Rt (.da (callS 4 a b first last (some low) none mn 0 0 0 yes []).2) o') Xt
/-! ### contracts of the law's functions -/
/-- what a family is asked with -/
structure Ask (o : O) (kind : Int) (a b : Str) (xn xm xs : Sl) (low high : Option Int) (mn helper least most : Int) (yes no : List Str) : Prop where
  k0 : 0 ≤ kind
  k8 : kind ≤ 8
  la : a.length ≤ 1000
  lb : b.length ≤ 1000
  n : LL o xn [.da (.str a), .da (.str b)]
  m : ∃ nm, LL o xm nm ∧ atI nm 0 = some (.da (optD low)) ∧ atI nm 1 = some (.da (optD high)) ∧ atI nm 2 = some (.da (.int mn)) ∧ atI nm 3 = some (.da (.int helper)) ∧ (kind = 6 → atI nm 4 = some (.da (.int least)) ∧ atI nm 5 = some (.da (.int most)))
  lo : kind = 4 → ∃ l, low = some l
  s : kind < 6 → ∃ s0 s1, LL o xs [s0, s1] ∧ LL o s0 (sls yes) ∧ LL o s1 (sls no)
def c__law_call (K : PySem.W.Frag) : Con := fun ss o Rt Xt => ∃ (kind : Int) (a b : Str) (xn : Sl) (first last : Int) (xm xs : Sl) (low high : Option Int) (mn helper least most : Int) (yes no : List Str), ss = [.da (.int kind), xn, .da (.int first), .da (.int last), xm, xs] ∧ Ask o kind a b xn xm xs low high mn helper least most yes no ∧
  (callS kind a b first last low high mn helper least most yes no).1.On K o (∀ o', Fp o o' → Rt (.da (callS kind a b first last low high mn helper least most yes no).2) o') Xt
def c__law_asked (K : PySem.W.Frag) : Con := fun ss o Rt _ => ∃ (kind : Int) (a b : Str) (xn : Sl) (first last : Int) (xm xs : Sl) (low high : Option Int) (mn helper least most : Int) (yes no : List Str), ss = [.da (.int kind), xn, .da (.int first), .da (.int last), xm, xs] ∧ Ask o kind a b xn xm xs low high mn helper least most yes no ∧
  ∀ o', Fp o o' → Rt (.da (told (callS kind a b first last low high mn helper least most yes no))) o'
/-- a word of the law's making -/
structure Wd (w : Str) : Prop where
  isw : isW w = true
def sp__law_purse (K : PySem.W.Frag) : Sp := fun vs H Q _ => ∃ (a : Addr) (ns : List Int), vs = [.ref a, .int 0] ∧ SqL K H a (ns.map V.int) ∧ ns.length ≤ 1000 ∧ ∀ (p q r : Int) (H' : Hp) (l : Addr), Ex H H' → H' l = none → Q (.ref l) (upd H' l (.lst [.int p, .int q, .int r]))
def c__law_draw (K : PySem.W.Frag) : Con := c_draw
def c__law_word (K : PySem.W.Frag) : Con := fun ss o Rt _ => ∃ (j : Nat) (x : Sl) (taken : List Str), ss = [.ow j, x] ∧ Pu o j ∧ x ≠ .ow j ∧ LL o x (sls taken) ∧ ∀ (w : Str) o', isW w = true → Fj j o o' → Rt (.da (.str w)) o'
def c__law_words (K : PySem.W.Frag) : Con := fun ss o Rt _ => ∃ (j : Nat) (n : Int), ss = [.ow j, .da (.int n)] ∧ Pu o j ∧ 0 ≤ n ∧ n ≤ 1000 ∧ ∀ (ws : List Str) o', (∀ w, w ∈ ws → isW w = true) → ws.length = n.toNat → Fj j o o' → Rt (.da (.lst (txs ws))) o'
def c__law_sides (K : PySem.W.Frag) : Con := fun ss o Rt _ => ∃ (j : Nat) (l : List Str), ss = [.ow j, .da (.lst (txs l))] ∧ Pu o j ∧ l.length ≤ 1000 ∧ ∀ (yes no : List Str) o', yes.length ≤ l.length → no.length ≤ l.length → Fj j o o' → Rt (.da (.lst [.lst (txs yes), .lst (txs no)])) o'
def c__law_number (K : PySem.W.Frag) : Con := fun ss o Rt _ => ∃ (j : Nat) (n : Int), ss = [.ow j, .da (.int n)] ∧ Pu o j ∧ 0 ≤ n ∧ n ≤ 1000 ∧ ∀ (r : Int) o', -1000000000 ≤ r → r ≤ 1000000000 → Fj j o o' → Rt (.da (.int r)) o'
def c__law_at (K : PySem.W.Frag) : Con := c_at_moment K
/-- a dict of whole numbers -/
def look (l : List (Key × D)) (s : Str) : Option Int := match getK l (.inr s) with
  | some (.int i) => some i
  | _ => none
def keepsR (v : Str → Option Int) (rows : List Row3) : Bool := rows.all fun r => !decide ((r.2.1.elim 0 fun s => (v s).getD 0) + r.2.2 < (r.1.elim 0 fun s => (v s).getD 0))
def Has (v : Str → Option Int) (r : Option Str) : Prop := ∀ s, r = some s → ∃ i, v s = some i
def c__law_keeps (K : PySem.W.Frag) : Con := fun ss o Rt _ => ∃ (rows : List Row3) (f : Row3 → List D) (l : List (Key × D)), ss = [.da (.lst (rows.map fun r => .tup ([optS r.1, optS r.2.1, .int r.2.2] ++ f r))), .da (.dic l)] ∧ (∀ r, r ∈ rows → Has (look l) r.1 ∧ Has (look l) r.2.1) ∧ Rt (.da (.bl (keepsR (look l) rows))) o
/-- its values lie in 0 .. M -/
def VD (l : List (Key × D)) (M : Int) : Prop := ∀ s i, look l s = some i → 0 ≤ i ∧ i ≤ M
def Keys (l : List (Key × D)) (n : Str) (first last : Int) : Prop := ∀ t, first ≤ t → t ≤ last → ∃ i, look l (atM n t) = some i
def dsl (l : List (Key × D)) : List (Key × Sl) := l.map fun p => (p.1, Sl.da p.2)
def c__law_counts (K : PySem.W.Frag) : Con := fun ss o Rt _ => ∃ (j : Nat) (xn : Sl) (names : List Str) (first last : Int), ss = [.ow j, xn, .da (.int first), .da (.int last), .da (.int 2)] ∧ Pu o j ∧ xn ≠ .ow j ∧ LL o xn (sls names) ∧ names.length ≤ 4 ∧ (∀ n, n ∈ names → n.length ≤ 1000) ∧ 0 ≤ first ∧ first ≤ last ∧ last ≤ 24 ∧
  ∀ (l : List (Key × D)) (i : Nat) o', Fj j o o' → o.length ≤ i → o'[i]? = some (.dic (dsl l)) → l.length ≤ 1000 → VD l 100 → (∀ n, n ∈ names → Keys l n first last) → Rt (.ow i) o'
def c__law_span (K : PySem.W.Frag) : Con := fun ss o Rt _ => ∃ (j : Nat), ss = [.ow j] ∧ Pu o j ∧ ∀ (first last : Int) o', 0 ≤ first → first ≤ last → last ≤ 24 → Fj j o o' → Rt (.da (.lst [.int first, .int last])) o'
def c__law_sided (K : PySem.W.Frag) : Con := fun ss o Rt _ => ∃ (rows : List Row3) (yes no : List Str), ss = [.da (.lst (rows.map side3)), .da (.lst [.lst (txs yes), .lst (txs no)])] ∧ rows.length ≤ 1000 ∧ Rt (.da (.lst (rows.map (side yes no)))) o
def fOwn (kind : Int) (a b : Str) (first last : Int) (low high : Option Int) (mn : Int) (t : Int) : List Row3 :=
  if kind = 0 then fStock a b low high t else if kind = 1 then fAfter a b first mn t else if kind = 2 then fWithin a b last mn t else if kind = 3 then (if t = last then [(none, some (atM a t), -mn)] else []) else
  if kind = 4 then fLoss a b (low.getD 0) mn t else fTurn a b mn t
def ownR (kind : Int) (a b : Str) (first last : Int) (low high : Option Int) (mn : Int) : List Row3 := rowsU (fOwn kind a b first last low high mn) first (many first last)
structure Nums (o : O) (kind : Int) (xm : Sl) (low high : Option Int) (mn : Int) : Prop where
  m : ∃ nm, LL o xm nm ∧ atI nm 0 = some (.da (optD low)) ∧ atI nm 1 = some (.da (optD high)) ∧ atI nm 2 = some (.da (.int mn))
  lo : kind = 4 → ∃ l, low = some l
  mn0 : 0 ≤ mn
def c__law_own (K : PySem.W.Frag) : Con := fun ss o Rt _ => ∃ (kind : Int) (a b : Str) (xn : Sl) (first last : Int) (xm : Sl) (low high : Option Int) (mn : Int), ss = [.da (.int kind), xn, .da (.int first), .da (.int last), xm] ∧ 0 ≤ kind ∧ kind ≤ 5 ∧ a.length ≤ 1000 ∧ b.length ≤ 1000 ∧ LL o xn [.da (.str a), .da (.str b)] ∧ Nums o kind xm low high mn ∧
  0 ≤ first ∧ first ≤ last ∧ last ≤ 24 ∧ ∀ o', Fp o o' → Rt (.da (.lst ((ownR kind a b first last low high mn).map side3))) o'
def c__law_meaning (K : PySem.W.Frag) : Con := fun ss o Rt _ => ∃ (kind : Int) (a b : Str) (xn : Sl) (first last : Int) (xm : Sl) (low high : Option Int) (mn : Int) (l : List (Key × D)), ss = [.da (.int kind), xn, .da (.int first), .da (.int last), xm, .da (.dic l)] ∧ 0 ≤ kind ∧ kind ≤ 5 ∧ a.length ≤ 1000 ∧ b.length ≤ 1000 ∧ LL o xn [.da (.str a), .da (.str b)] ∧ Nums o kind xm low high mn ∧
  0 ≤ first ∧ first ≤ last ∧ last ≤ 24 ∧ Keys l a first last ∧ Keys l b first last ∧ Rt (.da (.bl (keepsR (look l) (ownR kind a b first last low high mn)))) o
def c__law_gap (K : PySem.W.Frag) : Con := fun ss o Rt _ => ∃ (a b : Str) (xn : Sl) (first last : Int) (least : Bool) (l : List (Key × D)) (M : Int), ss = [.da (.dic l), xn, .da (.int first), .da (.int last), .da (.bl least)] ∧ a.length ≤ 1000 ∧ b.length ≤ 1000 ∧ LL o xn [.da (.str a), .da (.str b)] ∧
  0 ≤ first ∧ first ≤ last ∧ last ≤ 24 ∧ Keys l a first last ∧ Keys l b first last ∧ VD l M ∧ ∀ r : Int, -M ≤ r → r ≤ M → Rt (.da (.int r)) o
def c__law_numbers (K : PySem.W.Frag) : Con := fun ss o Rt _ => ∃ (j : Nat) (kind : Int) (a b : Str) (xn : Sl) (first last : Int) (l : List (Key × D)), ss = [.ow j, .da (.int kind), xn, .da (.int first), .da (.int last), .da (.dic l)] ∧ Pu o j ∧ xn ≠ .ow j ∧ 0 ≤ kind ∧ kind ≤ 5 ∧ a.length ≤ 1000 ∧ b.length ≤ 1000 ∧ LL o xn [.da (.str a), .da (.str b)] ∧
  0 ≤ first ∧ first ≤ last ∧ last ≤ 24 ∧ Keys l a first last ∧ Keys l b first last ∧ VD l 1000 ∧
  ∀ (low high : Option Int) (mn : Int) (i : Nat) o', Fj j o o' → o.length ≤ i → o'[i]? = some (.lst [.da (optD low), .da (optD high), .da (.int mn), .da (.int 1), .da (.int 0), .da (.int 9)]) → farN low = false → farN high = false → 0 ≤ mn → mn ≤ 1000000 → (kind = 4 → ∃ l, low = some l) → (kind = 0 → belowZ high = false ∧ crossd low high = false) → Rt (.ow i) o'
def cKind (n : Int) : Con := fun ss o Rt _ => ∃ (j : Nat) (kind : Int), ss = [.ow j, .da (.int kind)] ∧ Pu o j ∧ 0 ≤ kind ∧ kind ≤ n ∧ ∀ o', Fj j o o' → Rt (.da (.bl true)) o'
def cPart : Con := fun ss o Rt _ => ∃ (j : Nat), ss = [.ow j] ∧ Pu o j ∧ ∀ o', Fj j o o' → Rt (.da (.bl true)) o'
def c__law_counted (K : PySem.W.Frag) : Con := cKind 5
def c__law_lined (K : PySem.W.Frag) : Con := cPart
def c__law_sent (K : PySem.W.Frag) : Con := cPart
def c__law_refused (K : PySem.W.Frag) : Con := cKind 8
end
end K03
end AB

set_option Elab.async false
set_option linter.all false
set_option maxRecDepth 100000
set_option maxHeartbeats 4000000
set_option autoImplicit false
namespace AB
open PySem L2 PySem.Spec PyProof.Rows He
namespace K03
def topS (i : Nat) : Stmt := PySem.Challenge.pw_forcedapart_k03_patterns_by_their_plain.main.body.getD i (.Pass ⟨0, 0, 0, 0⟩)
abbrev s_check_most : Stmt := topS 7
theorem sc_check_most : FnScope ["what", "many", "most"] ["what", "many", "most"] (defScope s_check_most) := ⟨rfl, rfl, rfl, by decide +kernel, rfl, by decide +kernel, by decide +kernel⟩
abbrev s_check_numbers : Stmt := topS 8
theorem sc_check_numbers : FnScope ["numbers", "most", "number"] ["numbers", "most"] (defScope s_check_numbers) := ⟨rfl, rfl, rfl, by decide +kernel, rfl, by decide +kernel, by decide +kernel⟩
abbrev s_is_word : Stmt := topS 13
theorem sc_is_word : FnScope ["word", "sign"] ["word"] (defScope s_is_word) := ⟨rfl, rfl, rfl, by decide +kernel, rfl, by decide +kernel, by decide +kernel⟩
abbrev s_check_pattern : Stmt := topS 15
theorem sc_check_pattern : FnScope ["names", "first", "last", "numbers", "wrong", "name", "number"] ["names", "first", "last", "numbers", "wrong"] (defScope s_check_pattern) := ⟨rfl, rfl, rfl, by decide +kernel, rfl, by decide +kernel, by decide +kernel⟩
abbrev s_at_moment : Stmt := topS 16
theorem sc_at_moment : FnScope ["name", "moment"] ["name", "moment"] (defScope s_at_moment) := ⟨rfl, rfl, rfl, by decide +kernel, rfl, by decide +kernel, by decide +kernel⟩
abbrev s_below_zero : Stmt := topS 17
theorem sc_below_zero : FnScope ["number"] ["number"] (defScope s_below_zero) := ⟨rfl, rfl, rfl, by decide +kernel, rfl, by decide +kernel, by decide +kernel⟩
abbrev s_crossed : Stmt := topS 18
theorem sc_crossed : FnScope ["low", "high"] ["low", "high"] (defScope s_crossed) := ⟨rfl, rfl, rfl, by decide +kernel, rfl, by decide +kernel, by decide +kernel⟩
abbrev s_line_rows : Stmt := topS 19
theorem sc_line_rows : FnScope ["name", "helper", "first", "last", "least", "most", "slow", "fast", "decisions", "rules", "moment"] ["name", "helper", "first", "last", "least", "most", "slow", "fast"] (defScope s_line_rows) := ⟨rfl, rfl, rfl, by decide +kernel, rfl, by decide +kernel, by decide +kernel⟩
abbrev s_after_rows : Stmt := topS 20
theorem sc_after_rows : FnScope ["later", "earlier", "first", "last", "wait", "yes", "no", "rules", "moment", "by"] ["later", "earlier", "first", "last", "wait", "yes", "no"] (defScope s_after_rows) := ⟨rfl, rfl, rfl, by decide +kernel, rfl, by decide +kernel, by decide +kernel⟩
abbrev s_within_rows : Stmt := topS 21
theorem sc_within_rows : FnScope ["earlier", "later", "first", "last", "stay", "yes", "no", "rules", "moment"] ["earlier", "later", "first", "last", "stay", "yes", "no"] (defScope s_within_rows) := ⟨rfl, rfl, rfl, by decide +kernel, rfl, by decide +kernel, by decide +kernel⟩
abbrev s_due_rows : Stmt := topS 22
theorem sc_due_rows : FnScope ["name", "moment", "many", "yes", "no"] ["name", "moment", "many", "yes", "no"] (defScope s_due_rows) := ⟨rfl, rfl, rfl, by decide +kernel, rfl, by decide +kernel, by decide +kernel⟩
abbrev s_turn_rows : Stmt := topS 23
theorem sc_turn_rows : FnScope ["user", "giver", "first", "last", "own", "yes", "no", "rules", "moment"] ["user", "giver", "first", "last", "own", "yes", "no"] (defScope s_turn_rows) := ⟨rfl, rfl, rfl, by decide +kernel, rfl, by decide +kernel, by decide +kernel⟩
abbrev s_road_letters : Stmt := topS 24
theorem sc_road_letters : FnScope ["sender", "receiver", "first", "last", "lag", "moment"] ["sender", "receiver", "first", "last", "lag"] (defScope s_road_letters) := ⟨rfl, rfl, rfl, by decide +kernel, rfl, by decide +kernel, by decide +kernel⟩
abbrev s_watch_sights : Stmt := topS 25
theorem sc_watch_sights : FnScope ["mishap", "helper", "first", "last", "moment"] ["mishap", "helper", "first", "last"] (defScope s_watch_sights) := ⟨rfl, rfl, rfl, by decide +kernel, rfl, by decide +kernel, by decide +kernel⟩
abbrev s_stock_rows : Stmt := topS 27
theorem sc_stock_rows : FnScope ["over", "under", "first", "last", "low", "high", "yes", "no", "rules", "moment"] ["over", "under", "first", "last", "low", "high", "yes", "no"] (defScope s_stock_rows) := ⟨rfl, rfl, rfl, by decide +kernel, rfl, by decide +kernel, by decide +kernel⟩
abbrev s_loss_rows : Stmt := topS 28
theorem sc_loss_rows : FnScope ["over", "under", "first", "last", "low", "many", "yes", "rules", "moment"] ["over", "under", "first", "last", "low", "many", "yes"] (defScope s_loss_rows) := ⟨rfl, rfl, rfl, by decide +kernel, rfl, by decide +kernel, by decide +kernel⟩
abbrev s__law_purse : Stmt := topS 30
theorem sc__law_purse : FnScope ["script", "at", "cell", "size", "one"] ["script", "at"] (defScope s__law_purse) := ⟨rfl, rfl, rfl, by decide +kernel, rfl, by decide +kernel, by decide +kernel⟩
abbrev s__law_draw : Stmt := topS 31
theorem sc__law_draw : FnScope ["purse", "many", "found"] ["purse", "many"] (defScope s__law_draw) := ⟨rfl, rfl, rfl, by decide +kernel, rfl, by decide +kernel, by decide +kernel⟩
abbrev s__law_word : Stmt := topS 32
theorem sc__law_word : FnScope ["purse", "taken", "signs", "base", "turn", "word"] ["purse", "taken"] (defScope s__law_word) := ⟨rfl, rfl, rfl, by decide +kernel, rfl, by decide +kernel, by decide +kernel⟩
abbrev s__law_words : Stmt := topS 33
theorem sc__law_words : FnScope ["purse", "many", "words", "turn"] ["purse", "many"] (defScope s__law_words) := ⟨rfl, rfl, rfl, by decide +kernel, rfl, by decide +kernel, by decide +kernel⟩
abbrev s__law_sides : Stmt := topS 34
theorem sc__law_sides : FnScope ["purse", "mishaps", "yes", "no", "word", "kind"] ["purse", "mishaps"] (defScope s__law_sides) := ⟨rfl, rfl, rfl, by decide +kernel, rfl, by decide +kernel, by decide +kernel⟩
abbrev s__law_number : Stmt := topS 35
theorem sc__law_number : FnScope ["purse", "small", "kind"] ["purse", "small"] (defScope s__law_number) := ⟨rfl, rfl, rfl, by decide +kernel, rfl, by decide +kernel, by decide +kernel⟩
abbrev s__law_at : Stmt := topS 36
theorem sc__law_at : FnScope ["name", "moment"] ["name", "moment"] (defScope s__law_at) := ⟨rfl, rfl, rfl, by decide +kernel, rfl, by decide +kernel, by decide +kernel⟩
abbrev s__law_keeps : Stmt := topS 37
theorem sc__law_keeps : FnScope ["rows", "values", "row", "low", "high"] ["rows", "values"] (defScope s__law_keeps) := ⟨rfl, rfl, rfl, by decide +kernel, rfl, by decide +kernel, by decide +kernel⟩
abbrev s__law_counts : Stmt := topS 38
theorem sc__law_counts : FnScope ["purse", "names", "first", "last", "step", "values", "name", "count", "moment"] ["purse", "names", "first", "last", "step"] (defScope s__law_counts) := ⟨rfl, rfl, rfl, by decide +kernel, rfl, by decide +kernel, by decide +kernel⟩
abbrev s__law_span : Stmt := topS 39
theorem sc__law_span : FnScope ["purse", "first", "long"] ["purse"] (defScope s__law_span) := ⟨rfl, rfl, rfl, by decide +kernel, rfl, by decide +kernel, by decide +kernel⟩
abbrev s__law_sided : Stmt := topS 40
theorem sc__law_sided : FnScope ["rows", "sides", "row"] ["rows", "sides"] (defScope s__law_sided) := ⟨rfl, rfl, rfl, by decide +kernel, rfl, by decide +kernel, by decide +kernel⟩
abbrev s__law_own : Stmt := topS 41
theorem sc__law_own : FnScope ["kind", "names", "first", "last", "numbers", "rows", "a", "b", "low", "high", "many", "t"] ["kind", "names", "first", "last", "numbers"] (defScope s__law_own) := ⟨rfl, rfl, rfl, by decide +kernel, rfl, by decide +kernel, by decide +kernel⟩
abbrev s__law_meaning : Stmt := topS 42
theorem sc__law_meaning : FnScope ["kind", "names", "first", "last", "numbers", "values", "a", "b", "low", "high", "many", "t", "held"] ["kind", "names", "first", "last", "numbers", "values"] (defScope s__law_meaning) := ⟨rfl, rfl, rfl, by decide +kernel, rfl, by decide +kernel, by decide +kernel⟩
abbrev s__law_call : Stmt := topS 43
theorem sc__law_call : FnScope ["kind", "names", "first", "last", "numbers", "sides", "a", "b"] ["kind", "names", "first", "last", "numbers", "sides"] (defScope s__law_call) := ⟨rfl, rfl, rfl, by decide +kernel, rfl, by decide +kernel, by decide +kernel⟩
abbrev s__law_asked : Stmt := topS 44
theorem sc__law_asked : FnScope ["kind", "names", "first", "last", "numbers", "sides", "found", "told", "e"] ["kind", "names", "first", "last", "numbers", "sides"] (defScope s__law_asked) := ⟨rfl, rfl, rfl, by decide +kernel, rfl, by decide +kernel, by decide +kernel⟩
abbrev s__law_gap : Stmt := topS 45
theorem sc__law_gap : FnScope ["values", "names", "first", "last", "least", "gaps", "t"] ["values", "names", "first", "last", "least"] (defScope s__law_gap) := ⟨rfl, rfl, rfl, by decide +kernel, rfl, by decide +kernel, by decide +kernel⟩
abbrev s__law_numbers : Stmt := topS 46
theorem sc__law_numbers : FnScope ["purse", "kind", "names", "first", "last", "values", "kept", "low", "high", "many"] ["purse", "kind", "names", "first", "last", "values"] (defScope s__law_numbers) := ⟨rfl, rfl, rfl, by decide +kernel, rfl, by decide +kernel, by decide +kernel⟩
abbrev s__law_counted : Stmt := topS 47
theorem sc__law_counted : FnScope ["purse", "kind", "names", "first", "last", "sides", "values", "t", "numbers", "handed", "told", "due", "row", "meant"] ["purse", "kind"] (defScope s__law_counted) := ⟨rfl, rfl, rfl, by decide +kernel, rfl, by decide +kernel, by decide +kernel⟩
abbrev s__law_lined : Stmt := topS 48
theorem sc__law_lined : FnScope ["purse", "name", "first", "last", "slow", "fast", "helper", "ends", "told", "rows", "rules", "t", "values", "count", "meant", "rise"] ["purse"] (defScope s__law_lined) := ⟨rfl, rfl, rfl, by decide +kernel, rfl, by decide +kernel, by decide +kernel⟩
abbrev s__law_sent : Stmt := topS 49
theorem sc__law_sent : FnScope ["purse", "first", "last", "lag", "helper", "word", "told", "t"] ["purse"] (defScope s__law_sent) := ⟨rfl, rfl, rfl, by decide +kernel, rfl, by decide +kernel, by decide +kernel⟩
abbrev s__law_refused : Stmt := topS 50
theorem sc__law_refused : FnScope ["purse", "kind", "names", "sides", "right", "odd", "long", "wrongs", "wrong", "more", "parts", "part", "far"] ["purse", "kind"] (defScope s__law_refused) := ⟨rfl, rfl, rfl, by decide +kernel, rfl, by decide +kernel, by decide +kernel⟩
abbrev s_law : Stmt := topS 51
theorem sc_law : FnScope ["script", "purse", "turn", "kind"] ["script"] (defScope s_law) := ⟨rfl, rfl, rfl, by decide +kernel, rfl, by decide +kernel, by decide +kernel⟩
abbrev s_ApartError : Stmt := topS 1
abbrev s_TooMany : Stmt := topS 2
abbrev s_BadPattern : Stmt := topS 3
structure Tx (K : PySem.W.Frag) (mg : Str → Option Value) : Prop where
  b_abs : mg "abs" = none
  b_int : mg "int" = none
  b_isinstance : mg "isinstance" = none
  b_len : mg "len" = none
  b_list : mg "list" = none
  b_max : mg "max" = none
  b_min : mg "min" = none
  b_range : mg "range" = none
  b_str : mg "str" = none
  b_sum : mg "sum" = none
  b_tuple : mg "tuple" = none
  n_FIRSTS : ∃ u, mg "FIRSTS" = some u ∧ RelV (.str "abcdefghijklmnopqrstuvwxyz") u
  n_MOMENTS : ∃ u, mg "MOMENTS" = some u ∧ RelV (.int 24) u
  n_NUMBERS : ∃ u, mg "NUMBERS" = some u ∧ RelV (.int 1000000000) u
  n_REST : ∃ u, mg "REST" = some u ∧ RelV (.str "abcdefghijklmnopqrstuvwxyz0123456789.") u
  n_WORD_LENGTH : ∃ u, mg "WORD_LENGTH" = some u ∧ RelV (.int 12) u
  x_TooMany : ExF K mg "TooMany" (He.ga K "TooMany") (He.ma K (He.ga K "TooMany") "__init__") ["what"]
  x_BadPattern : ExF K mg "BadPattern" (He.ga K "BadPattern") (He.ma K (He.ga K "BadPattern") "__init__") ["what"]
  apart : Apart K mg (He.ga K "ApartError")
  m_TooMany_TooMany : PySem.W.exmOne K (.ref (He.ga K "TooMany")) (.ref (He.ga K "TooMany")) = some true
  m_TooMany_BadPattern : PySem.W.exmOne K (.ref (He.ga K "TooMany")) (.ref (He.ga K "BadPattern")) = some false
  m_BadPattern_TooMany : PySem.W.exmOne K (.ref (He.ga K "BadPattern")) (.ref (He.ga K "TooMany")) = some false
  m_BadPattern_BadPattern : PySem.W.exmOne K (.ref (He.ga K "BadPattern")) (.ref (He.ga K "BadPattern")) = some true
def r_check_most (K : PySem.W.Frag) (W : WX) : TS :=
  (tIfS (tTest (tOp rGtA (tVar 1) (tVar 2))) (tRaiseX K "TooMany" ["what"] W (tCons (tVar 0) tNil)) tNext)
def r_check_numbers (K : PySem.W.Frag) (W : WX) : TS :=
  (tFor (iSq K (tVar 0)) (gName 2) (tIfS (tOr (tTest (tOp rGtA (tVar 2) (tVar 1))) (tTest (tOp rLtA (tVar 2) (tUn rUnA (tVar 1))))) (tRaiseX K "TooMany" ["what"] W (tCons (tC (.str "numbers")) tNil)) tNext))
def r_is_word (K : PySem.W.Frag) (W : WX) : TS :=
  (tSeq (tIfS (tOr (tNot (tB (tCB (rIsi K) (tCons (tVar 0) (tCons (tC (.ty "str")) tNil))))) (tOr (tTest (tOp rLtA (tCB (rLenA K) (tCons (tVar 0) tNil)) (tC (.int 1)))) (tTest (tOp rGtA (tCB (rLenA K) (tCons (tVar 0) tNil)) (tC (.int 12)))))) (tRet (tC (.bl false))) tNext)
  (tSeq (tIfS (tOr (tTest (tOp (rNotInA K) (tOp (rIxA K) (tVar 0) (tC (.int 0))) (tC (.str "abcdefghijklmnopqrstuvwxyz")))) (tTest (tOp (rInA K) (tVar 0) (tLst (tCons (tC (.str "if")) (tCons (tC (.str "unless")) tNil)))))) (tRet (tC (.bl false))) tNext)
  (tSeq (tFor (iSq K (tVar 0)) (gName 1) (tIfS (tTest (tOp (rNotInA K) (tVar 1) (tC (.str "abcdefghijklmnopqrstuvwxyz0123456789.")))) (tRet (tC (.bl false))) tNext))
  (tRet (tC (.bl true))))))
def r_check_pattern (K : PySem.W.Frag) (W : WX) : TS :=
  (tSeq (tDrop (tCallS (SpC (c_check_most K)) (WE W) (tCons (tC (.str "moments")) (tCons (tVar 2) (tCons (tC (.int 24)) tNil)))))
  (tSeq (tDrop (tCallS (SpC (c_check_numbers K)) (WE W) (tCons (tLc (iSq K (tVar 3)) (gName 6) (tTest (tOp rIsNotA (tVar 6) (tC .non))) (tVar 6) [6]) (tCons (tC (.int 1000000000)) tNil))))
  (tSeq (tIfS (tOr (tTest (tOp rLtA (tVar 1) (tC (.int 0)))) (tTest (tOp rGtA (tVar 1) (tVar 2)))) (tRaiseX K "BadPattern" ["what"] W (tCons (tC (.str "moments")) tNil)) tNext)
  (tSeq (tFor (iSq K (tVar 0)) (gName 5) (tIfS (tOr (tNot (tB (tCallS (SpC (c_is_word K)) (WE W) (tCons (tVar 5) tNil)))) (tNot (tB (tCallS (SpC (c_is_word K)) (WE W) (tCons (tCallS (SpC (c_at_moment K)) (WE W) (tCons (tVar 5) (tCons (tVar 2) tNil))) tNil))))) (tRaiseX K "BadPattern" ["what"] W (tCons (tC (.str "name")) tNil)) tNext))
  (tIfS (tB (tVar 4)) (tRaiseX K "BadPattern" ["what"] W (tCons (tC (.str "number")) tNil)) tNext)))))
def r_at_moment (K : PySem.W.Frag) (W : WX) : TS :=
  (tRet (tOp rAddA (tOp rAddA (tVar 0) (tC (.str "."))) (tCB rStrI (tCons (tVar 1) tNil))))
def r_below_zero (K : PySem.W.Frag) (W : WX) : TS :=
  (tRet (tAndV (tOp rIsNotA (tVar 0) (tC .non)) (tOp rLtA (tVar 0) (tC (.int 0)))))
def r_crossed (K : PySem.W.Frag) (W : WX) : TS :=
  (tRet (tAndV (tOp rIsNotA (tVar 0) (tC .non)) (tAndV (tOp rIsNotA (tVar 1) (tC .non)) (tOp rGtA (tVar 0) (tVar 1)))))
def r_line_rows (K : PySem.W.Frag) (W : WX) : TS :=
  (tSeq (tDrop (tCallS (SpC (c_check_pattern K)) (WE W) (tCons (tLst (tCons (tVar 0) tNil)) (tCons (tVar 2) (tCons (tVar 3) (tCons (tLst (tCons (tVar 4) (tCons (tVar 5) (tCons (tVar 6) (tCons (tVar 7) tNil))))) (tCons (tOrV (tCallS (SpC (c_below_zero K)) (WE W) (tCons (tVar 7) tNil)) (tCallS (SpC (c_crossed K)) (WE W) (tCons (tVar 6) (tCons (tVar 7) tNil)))) tNil)))))))
  (tSeq (tAsg (tLst tNil) (gName 8))
  (tSeq (tAsg (tLst tNil) (gName 9))
  (tSeq (tFor (iRng2 (tCons (tVar 2) (tCons (tOp rAddA (tVar 3) (tC (.int 1))) tNil))) (gName 10) (tSeq (tDrop (tBM K "list" rAppend (tVar 8) (tCons (tTup (tCons (tCallS (SpC (c_at_moment K)) (WE W) (tCons (tVar 0) (tCons (tVar 10) tNil))) (tCons (tVar 1) (tCons (tVar 10) (tCons (tVar 4) (tCons (tVar 5) tNil)))))) tNil)))
  (tSeq (tIfS (tAnd (tTest (tOp rGtA (tVar 10) (tVar 2))) (tTest (tOp rIsNotA (tVar 6) (tC .non)))) (tDrop (tBM K "list" rAppend (tVar 9) (tCons (tTup (tCons (tCallS (SpC (c_at_moment K)) (WE W) (tCons (tVar 0) (tCons (tOp rSubA (tVar 10) (tC (.int 1))) tNil))) (tCons (tCallS (SpC (c_at_moment K)) (WE W) (tCons (tVar 0) (tCons (tVar 10) tNil))) (tCons (tUn rUnA (tVar 6)) (tCons (tLst tNil) (tCons (tLst tNil) tNil)))))) tNil))) tNext)
  (tIfS (tAnd (tTest (tOp rGtA (tVar 10) (tVar 2))) (tTest (tOp rIsNotA (tVar 7) (tC .non)))) (tDrop (tBM K "list" rAppend (tVar 9) (tCons (tTup (tCons (tCallS (SpC (c_at_moment K)) (WE W) (tCons (tVar 0) (tCons (tVar 10) tNil))) (tCons (tCallS (SpC (c_at_moment K)) (WE W) (tCons (tVar 0) (tCons (tOp rSubA (tVar 10) (tC (.int 1))) tNil))) (tCons (tVar 7) (tCons (tLst tNil) (tCons (tLst tNil) tNil)))))) tNil))) tNext))))
  (tRet (tTup (tCons (tVar 8) (tCons (tVar 9) tNil))))))))
def r_after_rows (K : PySem.W.Frag) (W : WX) : TS :=
  (tSeq (tDrop (tCallS (SpC (c_check_pattern K)) (WE W) (tCons (tLst (tCons (tVar 0) (tCons (tVar 1) tNil))) (tCons (tVar 2) (tCons (tVar 3) (tCons (tLst (tCons (tVar 4) tNil)) (tCons (tOp rLtA (tVar 4) (tC (.int 0))) tNil)))))))
  (tSeq (tAsg (tLst tNil) (gName 7))
  (tSeq (tFor (iRng2 (tCons (tVar 2) (tCons (tOp rAddA (tVar 3) (tC (.int 1))) tNil))) (gName 8) (tSeq (tAsg (tIf (tTest (tOp rLtA (tOp rSubA (tVar 8) (tVar 4)) (tVar 2))) (tC .non) (tCallS (SpC (c_at_moment K)) (WE W) (tCons (tVar 1) (tCons (tOp rSubA (tVar 8) (tVar 4)) tNil)))) (gName 9))
  (tDrop (tBM K "list" rAppend (tVar 7) (tCons (tTup (tCons (tCallS (SpC (c_at_moment K)) (WE W) (tCons (tVar 0) (tCons (tVar 8) tNil))) (tCons (tVar 9) (tCons (tC (.int 0)) (tCons (tCB (rListA K) (tCons (tVar 5) tNil)) (tCons (tCB (rListA K) (tCons (tVar 6) tNil)) tNil)))))) tNil)))))
  (tRet (tVar 7)))))
def r_within_rows (K : PySem.W.Frag) (W : WX) : TS :=
  (tSeq (tDrop (tCallS (SpC (c_check_pattern K)) (WE W) (tCons (tLst (tCons (tVar 0) (tCons (tVar 1) tNil))) (tCons (tVar 2) (tCons (tVar 3) (tCons (tLst (tCons (tVar 4) tNil)) (tCons (tOp rLtA (tVar 4) (tC (.int 0))) tNil)))))))
  (tSeq (tAsg (tLst tNil) (gName 7))
  (tSeq (tFor (iRng2 (tCons (tVar 2) (tCons (tOp rAddA (tVar 3) (tC (.int 1))) tNil))) (gName 8) (tIfS (tTest (tOp rLeA (tOp rAddA (tVar 8) (tVar 4)) (tVar 3))) (tDrop (tBM K "list" rAppend (tVar 7) (tCons (tTup (tCons (tCallS (SpC (c_at_moment K)) (WE W) (tCons (tVar 0) (tCons (tVar 8) tNil))) (tCons (tCallS (SpC (c_at_moment K)) (WE W) (tCons (tVar 1) (tCons (tOp rAddA (tVar 8) (tVar 4)) tNil))) (tCons (tC (.int 0)) (tCons (tCB (rListA K) (tCons (tVar 5) tNil)) (tCons (tCB (rListA K) (tCons (tVar 6) tNil)) tNil)))))) tNil))) tNext))
  (tRet (tVar 7)))))
def r_due_rows (K : PySem.W.Frag) (W : WX) : TS :=
  (tSeq (tDrop (tCallS (SpC (c_check_pattern K)) (WE W) (tCons (tLst (tCons (tVar 0) tNil)) (tCons (tVar 1) (tCons (tVar 1) (tCons (tLst (tCons (tVar 2) tNil)) (tCons (tOp rLtA (tVar 2) (tC (.int 0))) tNil)))))))
  (tRet (tLst (tCons (tTup (tCons (tC .non) (tCons (tCallS (SpC (c_at_moment K)) (WE W) (tCons (tVar 0) (tCons (tVar 1) tNil))) (tCons (tUn rUnA (tVar 2)) (tCons (tCB (rListA K) (tCons (tVar 3) tNil)) (tCons (tCB (rListA K) (tCons (tVar 4) tNil)) tNil)))))) tNil))))
def r_turn_rows (K : PySem.W.Frag) (W : WX) : TS :=
  (tSeq (tDrop (tCallS (SpC (c_check_pattern K)) (WE W) (tCons (tLst (tCons (tVar 0) (tCons (tVar 1) tNil))) (tCons (tVar 2) (tCons (tVar 3) (tCons (tLst (tCons (tVar 4) tNil)) (tCons (tOp rLtA (tVar 4) (tC (.int 0))) tNil)))))))
  (tSeq (tAsg (tLst tNil) (gName 7))
  (tSeq (tFor (iRng2 (tCons (tVar 2) (tCons (tOp rAddA (tVar 3) (tC (.int 1))) tNil))) (gName 8) (tDrop (tBM K "list" rAppend (tVar 7) (tCons (tTup (tCons (tCallS (SpC (c_at_moment K)) (WE W) (tCons (tVar 0) (tCons (tVar 8) tNil))) (tCons (tCallS (SpC (c_at_moment K)) (WE W) (tCons (tVar 1) (tCons (tVar 8) tNil))) (tCons (tVar 4) (tCons (tCB (rListA K) (tCons (tVar 5) tNil)) (tCons (tCB (rListA K) (tCons (tVar 6) tNil)) tNil)))))) tNil))))
  (tRet (tVar 7)))))
def r_road_letters (K : PySem.W.Frag) (W : WX) : TS :=
  (tSeq (tDrop (tCallS (SpC (c_check_pattern K)) (WE W) (tCons (tLst tNil) (tCons (tVar 2) (tCons (tVar 3) (tCons (tLst (tCons (tVar 4) tNil)) (tCons (tOp rLtA (tVar 4) (tC (.int 1))) tNil)))))))
  (tRet (tLc (iRng2 (tCons (tVar 2) (tCons (tOp rAddA (tVar 3) (tC (.int 1))) tNil))) (gName 5) tYes (tTup (tCons (tVar 0) (tCons (tVar 5) (tCons (tVar 1) (tCons (tOp rAddA (tVar 5) (tVar 4)) (tCons (tLst tNil) (tCons (tLst tNil) tNil))))))) [5])))
def r_watch_sights (K : PySem.W.Frag) (W : WX) : TS :=
  (tSeq (tDrop (tCallS (SpC (c_check_pattern K)) (WE W) (tCons (tLst tNil) (tCons (tVar 2) (tCons (tVar 3) (tCons (tLst tNil) (tCons (tC (.bl false)) tNil)))))))
  (tSeq (tIfS (tNot (tB (tCallS (SpC (c_is_word K)) (WE W) (tCons (tVar 0) tNil)))) (tRaiseX K "BadPattern" ["what"] W (tCons (tC (.str "name")) tNil)) tNext)
  (tRet (tLc (iRng2 (tCons (tVar 2) (tCons (tOp rAddA (tVar 3) (tC (.int 1))) tNil))) (gName 4) tYes (tTup (tCons (tVar 0) (tCons (tVar 1) (tCons (tVar 4) (tCons (tC .non) (tCons (tC (.int 0)) tNil)))))) [4]))))
def r_stock_rows (K : PySem.W.Frag) (W : WX) : TS :=
  (tSeq (tDrop (tCallS (SpC (c_check_pattern K)) (WE W) (tCons (tLst (tCons (tVar 0) (tCons (tVar 1) tNil))) (tCons (tVar 2) (tCons (tVar 3) (tCons (tLst (tCons (tVar 4) (tCons (tVar 5) tNil))) (tCons (tOrV (tCallS (SpC (c_below_zero K)) (WE W) (tCons (tVar 5) tNil)) (tCallS (SpC (c_crossed K)) (WE W) (tCons (tVar 4) (tCons (tVar 5) tNil)))) tNil)))))))
  (tSeq (tAsg (tLst tNil) (gName 8))
  (tSeq (tFor (iRng2 (tCons (tVar 2) (tCons (tOp rAddA (tVar 3) (tC (.int 1))) tNil))) (gName 9) (tSeq (tIfS (tTest (tOp rIsNotA (tVar 4) (tC .non))) (tDrop (tBM K "list" rAppend (tVar 8) (tCons (tTup (tCons (tCallS (SpC (c_at_moment K)) (WE W) (tCons (tVar 1) (tCons (tVar 9) tNil))) (tCons (tCallS (SpC (c_at_moment K)) (WE W) (tCons (tVar 0) (tCons (tVar 9) tNil))) (tCons (tUn rUnA (tVar 4)) (tCons (tCB (rListA K) (tCons (tVar 6) tNil)) (tCons (tCB (rListA K) (tCons (tVar 7) tNil)) tNil)))))) tNil))) tNext)
  (tIfS (tTest (tOp rIsNotA (tVar 5) (tC .non))) (tDrop (tBM K "list" rAppend (tVar 8) (tCons (tTup (tCons (tCallS (SpC (c_at_moment K)) (WE W) (tCons (tVar 0) (tCons (tVar 9) tNil))) (tCons (tCallS (SpC (c_at_moment K)) (WE W) (tCons (tVar 1) (tCons (tVar 9) tNil))) (tCons (tVar 5) (tCons (tCB (rListA K) (tCons (tVar 6) tNil)) (tCons (tCB (rListA K) (tCons (tVar 7) tNil)) tNil)))))) tNil))) tNext)))
  (tRet (tVar 8)))))
def r_loss_rows (K : PySem.W.Frag) (W : WX) : TS :=
  (tSeq (tDrop (tCallS (SpC (c_check_pattern K)) (WE W) (tCons (tLst (tCons (tVar 0) (tCons (tVar 1) tNil))) (tCons (tVar 2) (tCons (tVar 3) (tCons (tLst (tCons (tVar 4) (tCons (tVar 5) tNil))) (tCons (tOp rLtA (tVar 5) (tC (.int 0))) tNil)))))))
  (tSeq (tAsg (tLst tNil) (gName 7))
  (tSeq (tFor (iRng2 (tCons (tVar 2) (tCons (tOp rAddA (tVar 3) (tC (.int 1))) tNil))) (gName 8) (tDrop (tBM K "list" rAppend (tVar 7) (tCons (tTup (tCons (tCallS (SpC (c_at_moment K)) (WE W) (tCons (tVar 1) (tCons (tVar 8) tNil))) (tCons (tCallS (SpC (c_at_moment K)) (WE W) (tCons (tVar 0) (tCons (tVar 8) tNil))) (tCons (tOp rSubA (tUn rUnA (tVar 4)) (tVar 5)) (tCons (tCB (rListA K) (tCons (tVar 6) tNil)) (tCons (tLst tNil) tNil)))))) tNil))))
  (tRet (tVar 7)))))
def r__law_purse (K : PySem.W.Frag) (W : WX) : TS :=
  (tSeq (tAsg (tIf (tTest (tOp rLtA (tVar 1) (tCB (rLenA K) (tCons (tVar 0) tNil)))) (tCB rIntI (tCons (tOp (rIxA K) (tVar 0) (tVar 1)) tNil)) (tOp rMulA (tC (.int 31)) (tCB (rSumA K) (tCons (tLc (iSq K (tSl (rSlA K) (tVar 0) tNoPart (tPart (tC (.int 4))))) (gName 4) tYes (tCB rIntI (tCons (tVar 4) tNil)) [4]) tNil)))) (gName 2))
  (tSeq (tAsg (tOp rAddA (tOp rMulA (tC (.int 2)) (tCB rAbsI (tCons (tVar 2) tNil))) (tIf (tTest (tOp rLtA (tVar 2) (tC (.int 0)))) (tC (.int 1)) (tC (.int 0)))) (gName 3))
  (tRet (tLst (tCons (tIf (tTest (tOp rGeA (tVar 3) (tOp rPowA (tC (.int 10)) (tC (.int 18))))) (tVar 3) (tC (.int 0))) (tCons (tOp rModA (tCB rIntI (tCons (tOp rAddA (tOp rAddA (tVar 3) (tOp rMulA (tVar 1) (tC (.int 104729)))) (tC (.int 12345))) tNil)) (tC (.int 2147483629))) (tCons (tVar 1) tNil)))))))
def r__law_draw (K : PySem.W.Frag) (W : WX) : TS :=
  (tSeq (tIfS (tTest (tOp rGtA (tOp (rIxA K) (tVar 0) (tC (.int 0))) (tC (.int 0)))) (tSeq (tAsg (tOp rModA (tCB rIntI (tCons (tOp (rIxA K) (tVar 0) (tC (.int 0))) tNil)) (tVar 1)) (gName 2))
  (tSeq (tAsg (tOp rDivA (tOp (rIxA K) (tVar 0) (tC (.int 0))) (tVar 1)) (gSub (tVar 0) (tC (.int 0)) rSetL))
  (tRet (tVar 2)))) tNext)
  (tSeq (tAugS (tVar 0) (tC (.int 2)) (tC (.int 1)) (rIxL K) (ipI fun i j => i + j) rSetL)
  (tSeq (tAsg (tOp rModA (tCB rIntI (tCons (tOp rAddA (tOp rMulA (tOp (rIxA K) (tVar 0) (tC (.int 1))) (tC (.int 48271))) (tOp rMulA (tOp (rIxA K) (tVar 0) (tC (.int 2))) (tC (.int 69621)))) tNil)) (tC (.int 2147483647))) (gSub (tVar 0) (tC (.int 1)) rSetL))
  (tRet (tOp rModA (tOp rDivA (tOp rModA (tCB rIntI (tCons (tOp rAddA (tOp rMulA (tOp (rIxA K) (tVar 0) (tC (.int 1))) (tC (.int 16807))) (tOp rMulA (tOp (rIxA K) (tVar 0) (tC (.int 2))) (tC (.int 7919)))) tNil)) (tC (.int 2147483629))) (tC (.int 8))) (tVar 1))))))
def r__law_word (K : PySem.W.Frag) (W : WX) : TS :=
  (tSeq (tAsg (tC (.str "abcdefghijklmnopqrstuvwxyz0123456789.")) (gName 2))
  (tSeq (tAsg (tOp (rIxA K) (tVar 2) (tCallS (SpC (c__law_draw K)) (WE W) (tCons (tVar 0) (tCons (tC (.int 26)) tNil)))) (gName 3))
  (tSeq (tFor (iRng1 (tCons (tIf (tTest (tOp (rEqP K) (tCallS (SpC (c__law_draw K)) (WE W) (tCons (tVar 0) (tCons (tC (.int 8)) tNil))) (tC (.int 0)))) (tC (.int 11)) (tCallS (SpC (c__law_draw K)) (WE W) (tCons (tVar 0) (tCons (tC (.int 4)) tNil)))) tNil)) (gName 4) (tAsg (tOp rAddA (tVar 3) (tOp (rIxA K) (tVar 2) (tCallS (SpC (c__law_draw K)) (WE W) (tCons (tVar 0) (tCons (tC (.int 37)) tNil))))) (gName 3)))
  (tSeq (tAsg (tVar 3) (gName 5))
  (tSeq (tFor (iRng1 (tCons (tC (.int 60)) tNil)) (gName 4) (tSeq (tIfS (tAnd (tTest (tOp (rNotInA K) (tVar 5) (tVar 1))) (tTest (tOp (rNotInA K) (tVar 5) (tLst (tCons (tC (.str "if")) (tCons (tC (.str "unless")) tNil)))))) (tRet (tVar 5)) tNext)
  (tAsg (tOp rAddA (tSl (rSlA K) (tVar 3) tNoPart (tPart (tC (.int 8)))) (tCB rStrI (tCons (tVar 4) tNil))) (gName 5))))
  (tRet (tVar 5)))))))
def r__law_words (K : PySem.W.Frag) (W : WX) : TS :=
  (tSeq (tAsg (tLst tNil) (gName 2))
  (tSeq (tFor (iRng1 (tCons (tVar 1) tNil)) (gName 3) (tDrop (tBM K "list" rAppend (tVar 2) (tCons (tCallS (SpC (c__law_word K)) (WE W) (tCons (tVar 0) (tCons (tVar 2) tNil))) tNil))))
  (tRet (tVar 2))))
def r__law_sides (K : PySem.W.Frag) (W : WX) : TS :=
  (tSeq (tAsg (tLst tNil) (gName 2))
  (tSeq (tAsg (tLst tNil) (gName 3))
  (tSeq (tFor (iSq K (tVar 1)) (gName 4) (tSeq (tAsg (tCallS (SpC (c__law_draw K)) (WE W) (tCons (tVar 0) (tCons (tC (.int 4)) tNil))) (gName 5))
  (tSeq (tIfS (tTest (tOp (rEqP K) (tVar 5) (tC (.int 0)))) (tDrop (tBM K "list" rAppend (tVar 2) (tCons (tVar 4) tNil))) tNext)
  (tIfS (tTest (tOp (rEqP K) (tVar 5) (tC (.int 1)))) (tDrop (tBM K "list" rAppend (tVar 3) (tCons (tVar 4) tNil))) tNext))))
  (tRet (tLst (tCons (tVar 2) (tCons (tVar 3) tNil)))))))
def r__law_number (K : PySem.W.Frag) (W : WX) : TS :=
  (tSeq (tAsg (tCallS (SpC (c__law_draw K)) (WE W) (tCons (tVar 0) (tCons (tC (.int 9)) tNil))) (gName 2))
  (tSeq (tIfS (tTest (tOp (rEqP K) (tVar 2) (tC (.int 0)))) (tRet (tOp rSubA (tOp rPowA (tC (.int 10)) (tC (.int 9))) (tCallS (SpC (c__law_draw K)) (WE W) (tCons (tVar 0) (tCons (tC (.int 2)) tNil))))) tNext)
  (tSeq (tIfS (tTest (tOp (rEqP K) (tVar 2) (tC (.int 1)))) (tRet (tOp rSubA (tCallS (SpC (c__law_draw K)) (WE W) (tCons (tVar 0) (tCons (tC (.int 2)) tNil))) (tOp rPowA (tC (.int 10)) (tC (.int 9))))) tNext)
  (tRet (tOp rSubA (tCallS (SpC (c__law_draw K)) (WE W) (tCons (tVar 0) (tCons (tOp rAddA (tOp rMulA (tC (.int 2)) (tVar 1)) (tC (.int 1))) tNil))) (tVar 1))))))
def r__law_at (K : PySem.W.Frag) (W : WX) : TS :=
  (tRet (tOp rAddA (tOp rAddA (tVar 0) (tC (.str "."))) (tCB rStrI (tCons (tVar 1) tNil))))
def r__law_keeps (K : PySem.W.Frag) (W : WX) : TS :=
  (tSeq (tFor (iSq K (tVar 0)) (gName 2) (tSeq (tAsg (tIf (tTest (tOp rIsA (tOp (rIxA K) (tVar 2) (tC (.int 0))) (tC .non))) (tC (.int 0)) (tOp (rIxA K) (tVar 1) (tOp (rIxA K) (tVar 2) (tC (.int 0))))) (gName 3))
  (tSeq (tAsg (tIf (tTest (tOp rIsA (tOp (rIxA K) (tVar 2) (tC (.int 1))) (tC .non))) (tC (.int 0)) (tOp (rIxA K) (tVar 1) (tOp (rIxA K) (tVar 2) (tC (.int 1))))) (gName 4))
  (tIfS (tTest (tOp rGtA (tVar 3) (tOp rAddA (tVar 4) (tOp (rIxA K) (tVar 2) (tC (.int 2)))))) (tRet (tC (.bl false))) tNext))))
  (tRet (tC (.bl true))))
def r__law_counts (K : PySem.W.Frag) (W : WX) : TS :=
  (tSeq (tAsg tDNewK (gName 5))
  (tSeq (tFor (iSq K (tVar 1)) (gName 6) (tSeq (tAsg (tC (.int 0)) (gName 7))
  (tFor (iRng2 (tCons (tVar 2) (tCons (tOp rAddA (tVar 3) (tC (.int 1))) tNil))) (gName 8) (tSeq (tAsg (tOp rAddA (tVar 7) (tCallS (SpC (c__law_draw K)) (WE W) (tCons (tVar 0) (tCons (tOp rAddA (tVar 4) (tC (.int 1))) tNil)))) (gName 7))
  (sDPut (tVar 5) (tCallS (SpC (c__law_at K)) (WE W) (tCons (tVar 6) (tCons (tVar 8) tNil))) (tVar 7))))))
  (tRet (tVar 5))))
def r__law_span (K : PySem.W.Frag) (W : WX) : TS :=
  (tSeq (tAsg (tCallS (SpC (c__law_draw K)) (WE W) (tCons (tVar 0) (tCons (tC (.int 4)) tNil))) (gName 1))
  (tSeq (tAsg (tCallS (SpC (c__law_draw K)) (WE W) (tCons (tVar 0) (tCons (tC (.int 9)) tNil))) (gName 2))
  (tRet (tLst (tCons (tVar 1) (tCons (tIf (tTest (tOp (rEqP K) (tVar 2) (tC (.int 0)))) (tC (.int 24)) (tOp rAddA (tVar 1) (tCallS (SpC (c__law_draw K)) (WE W) (tCons (tVar 0) (tCons (tC (.int 6)) tNil))))) tNil))))))
def r__law_sided (K : PySem.W.Frag) (W : WX) : TS :=
  (tRet (tLc (iSq K (tVar 0)) (gName 2) tYes (tTup (tCons (tOp (rIxA K) (tVar 2) (tC (.int 0))) (tCons (tOp (rIxA K) (tVar 2) (tC (.int 1))) (tCons (tOp (rIxA K) (tVar 2) (tC (.int 2))) (tCons (tOp (rIxA K) (tVar 1) (tC (.int 0))) (tCons (tOp (rIxA K) (tVar 1) (tC (.int 1))) tNil)))))) [2]))
def r__law_own (K : PySem.W.Frag) (W : WX) : TS :=
  (tSeq (tAsg (tLst tNil) (gName 5))
  (tSeq (tPar 6 7 (tCons (tOp (rIxA K) (tVar 1) (tC (.int 0))) (tCons (tOp (rIxA K) (tVar 1) (tC (.int 1))) tNil)))
  (tSeq (tPar3 8 9 10 (tCons (tOp (rIxA K) (tVar 4) (tC (.int 0))) (tCons (tOp (rIxA K) (tVar 4) (tC (.int 1))) (tCons (tOp (rIxA K) (tVar 4) (tC (.int 2))) tNil))))
  (tSeq (tFor (iRng2 (tCons (tVar 2) (tCons (tOp rAddA (tVar 3) (tC (.int 1))) tNil))) (gName 11) (tSeq (tIfS (tAnd (tTest (tOp (rEqP K) (tVar 0) (tC (.int 0)))) (tTest (tOp rIsNotA (tVar 8) (tC .non)))) (tDrop (tBM K "list" rAppend (tVar 5) (tCons (tTup (tCons (tCallS (SpC (c__law_at K)) (WE W) (tCons (tVar 7) (tCons (tVar 11) tNil))) (tCons (tCallS (SpC (c__law_at K)) (WE W) (tCons (tVar 6) (tCons (tVar 11) tNil))) (tCons (tUn rUnA (tVar 8)) tNil)))) tNil))) tNext)
  (tSeq (tIfS (tAnd (tTest (tOp (rEqP K) (tVar 0) (tC (.int 0)))) (tTest (tOp rIsNotA (tVar 9) (tC .non)))) (tDrop (tBM K "list" rAppend (tVar 5) (tCons (tTup (tCons (tCallS (SpC (c__law_at K)) (WE W) (tCons (tVar 6) (tCons (tVar 11) tNil))) (tCons (tCallS (SpC (c__law_at K)) (WE W) (tCons (tVar 7) (tCons (tVar 11) tNil))) (tCons (tVar 9) tNil)))) tNil))) tNext)
  (tSeq (tIfS (tTest (tOp (rEqP K) (tVar 0) (tC (.int 1)))) (tDrop (tBM K "list" rAppend (tVar 5) (tCons (tTup (tCons (tCallS (SpC (c__law_at K)) (WE W) (tCons (tVar 6) (tCons (tVar 11) tNil))) (tCons (tIf (tTest (tOp rGeA (tOp rSubA (tVar 11) (tVar 10)) (tVar 2))) (tCallS (SpC (c__law_at K)) (WE W) (tCons (tVar 7) (tCons (tOp rSubA (tVar 11) (tVar 10)) tNil))) (tC .non)) (tCons (tC (.int 0)) tNil)))) tNil))) tNext)
  (tSeq (tIfS (tAnd (tTest (tOp (rEqP K) (tVar 0) (tC (.int 2)))) (tTest (tOp rLeA (tOp rAddA (tVar 11) (tVar 10)) (tVar 3)))) (tDrop (tBM K "list" rAppend (tVar 5) (tCons (tTup (tCons (tCallS (SpC (c__law_at K)) (WE W) (tCons (tVar 6) (tCons (tVar 11) tNil))) (tCons (tCallS (SpC (c__law_at K)) (WE W) (tCons (tVar 7) (tCons (tOp rAddA (tVar 11) (tVar 10)) tNil))) (tCons (tC (.int 0)) tNil)))) tNil))) tNext)
  (tSeq (tIfS (tAnd (tTest (tOp (rEqP K) (tVar 0) (tC (.int 3)))) (tTest (tOp (rEqP K) (tVar 11) (tVar 3)))) (tDrop (tBM K "list" rAppend (tVar 5) (tCons (tTup (tCons (tC .non) (tCons (tCallS (SpC (c__law_at K)) (WE W) (tCons (tVar 6) (tCons (tVar 11) tNil))) (tCons (tUn rUnA (tVar 10)) tNil)))) tNil))) tNext)
  (tSeq (tIfS (tTest (tOp (rEqP K) (tVar 0) (tC (.int 4)))) (tDrop (tBM K "list" rAppend (tVar 5) (tCons (tTup (tCons (tCallS (SpC (c__law_at K)) (WE W) (tCons (tVar 7) (tCons (tVar 11) tNil))) (tCons (tCallS (SpC (c__law_at K)) (WE W) (tCons (tVar 6) (tCons (tVar 11) tNil))) (tCons (tOp rSubA (tUn rUnA (tVar 8)) (tVar 10)) tNil)))) tNil))) tNext)
  (tIfS (tTest (tOp (rEqP K) (tVar 0) (tC (.int 5)))) (tDrop (tBM K "list" rAppend (tVar 5) (tCons (tTup (tCons (tCallS (SpC (c__law_at K)) (WE W) (tCons (tVar 6) (tCons (tVar 11) tNil))) (tCons (tCallS (SpC (c__law_at K)) (WE W) (tCons (tVar 7) (tCons (tVar 11) tNil))) (tCons (tVar 10) tNil)))) tNil))) tNext))))))))
  (tRet (tVar 5))))))
def r__law_meaning (K : PySem.W.Frag) (W : WX) : TS :=
  (tSeq (tAsg (tLc (iRng2 (tCons (tVar 2) (tCons (tOp rAddA (tVar 3) (tC (.int 1))) tNil))) (gName 11) tYes (tOp (rIxA K) (tVar 5) (tCallS (SpC (c__law_at K)) (WE W0) (tCons (tOp (rIxA K) (tVar 1) (tC (.int 0))) (tCons (tVar 11) tNil)))) [11]) (gName 6))
  (tSeq (tAsg (tLc (iRng2 (tCons (tVar 2) (tCons (tOp rAddA (tVar 3) (tC (.int 1))) tNil))) (gName 11) tYes (tOp (rIxA K) (tVar 5) (tCallS (SpC (c__law_at K)) (WE W0) (tCons (tOp (rIxA K) (tVar 1) (tC (.int 1))) (tCons (tVar 11) tNil)))) [11]) (gName 7))
  (tSeq (tPar3 8 9 10 (tCons (tOp (rIxA K) (tVar 4) (tC (.int 0))) (tCons (tOp (rIxA K) (tVar 4) (tC (.int 1))) (tCons (tOp (rIxA K) (tVar 4) (tC (.int 2))) tNil))))
  (tSeq (tFor (iRng1 (tCons (tCB (rLenA K) (tCons (tVar 6) tNil)) tNil)) (gName 11) (tSeq (tAsg (tOp rSubA (tOp (rIxA K) (tVar 6) (tVar 11)) (tOp (rIxA K) (tVar 7) (tVar 11))) (gName 12))
  (tSeq (tIfS (tAnd (tTest (tOp (rEqP K) (tVar 0) (tC (.int 0)))) (tOr (tAnd (tTest (tOp rIsNotA (tVar 8) (tC .non))) (tTest (tOp rLtA (tVar 12) (tVar 8)))) (tAnd (tTest (tOp rIsNotA (tVar 9) (tC .non))) (tTest (tOp rGtA (tVar 12) (tVar 9)))))) (tRet (tC (.bl false))) tNext)
  (tSeq (tIfS (tAnd (tTest (tOp (rEqP K) (tVar 0) (tC (.int 1)))) (tTest (tOp rGtA (tOp (rIxA K) (tVar 6) (tVar 11)) (tIf (tTest (tOp rGeA (tVar 11) (tVar 10))) (tOp (rIxA K) (tVar 7) (tOp rSubA (tVar 11) (tVar 10))) (tC (.int 0)))))) (tRet (tC (.bl false))) tNext)
  (tSeq (tIfS (tAnd (tTest (tOp (rEqP K) (tVar 0) (tC (.int 2)))) (tAnd (tTest (tOp rLtA (tOp rAddA (tVar 11) (tVar 10)) (tCB (rLenA K) (tCons (tVar 6) tNil)))) (tTest (tOp rLtA (tOp (rIxA K) (tVar 7) (tOp rAddA (tVar 11) (tVar 10))) (tOp (rIxA K) (tVar 6) (tVar 11)))))) (tRet (tC (.bl false))) tNext)
  (tSeq (tIfS (tAnd (tTest (tOp (rEqP K) (tVar 0) (tC (.int 4)))) (tTest (tOp rLtA (tOp rSubA (tVar 12) (tVar 10)) (tVar 8)))) (tRet (tC (.bl false))) tNext)
  (tIfS (tAnd (tTest (tOp (rEqP K) (tVar 0) (tC (.int 5)))) (tTest (tOp rGtA (tVar 12) (tVar 10)))) (tRet (tC (.bl false))) tNext)))))))
  (tRet (tOrV (tOp (rNeP K) (tVar 0) (tC (.int 3))) (tOp rGeA (tOp (rIxA K) (tVar 6) (tOp rSubA (tCB (rLenA K) (tCons (tVar 6) tNil)) (tC (.int 1)))) (tVar 10))))))))
def r__law_call (K : PySem.W.Frag) (W : WX) : TS :=
  (tSeq (tPar 6 7 (tCons (tOp (rIxA K) (tVar 1) (tC (.int 0))) (tCons (tOp (rIxA K) (tVar 1) (tC (.int 1))) tNil)))
  (tSeq (tIfS (tTest (tOp (rEqP K) (tVar 0) (tC (.int 0)))) (tRet (tCallS (SpC (c_stock_rows K)) (WE W) (tCons (tVar 6) (tCons (tVar 7) (tCons (tVar 2) (tCons (tVar 3) (tCons (tOp (rIxA K) (tVar 4) (tC (.int 0))) (tCons (tOp (rIxA K) (tVar 4) (tC (.int 1))) (tCons (tOp (rIxA K) (tVar 5) (tC (.int 0))) (tCons (tOp (rIxA K) (tVar 5) (tC (.int 1))) tNil)))))))))) tNext)
  (tSeq (tIfS (tTest (tOp (rEqP K) (tVar 0) (tC (.int 1)))) (tRet (tCallS (SpC (c_after_rows K)) (WE W) (tCons (tVar 6) (tCons (tVar 7) (tCons (tVar 2) (tCons (tVar 3) (tCons (tOp (rIxA K) (tVar 4) (tC (.int 2))) (tCons (tOp (rIxA K) (tVar 5) (tC (.int 0))) (tCons (tOp (rIxA K) (tVar 5) (tC (.int 1))) tNil))))))))) tNext)
  (tSeq (tIfS (tTest (tOp (rEqP K) (tVar 0) (tC (.int 2)))) (tRet (tCallS (SpC (c_within_rows K)) (WE W) (tCons (tVar 6) (tCons (tVar 7) (tCons (tVar 2) (tCons (tVar 3) (tCons (tOp (rIxA K) (tVar 4) (tC (.int 2))) (tCons (tOp (rIxA K) (tVar 5) (tC (.int 0))) (tCons (tOp (rIxA K) (tVar 5) (tC (.int 1))) tNil))))))))) tNext)
  (tSeq (tIfS (tTest (tOp (rEqP K) (tVar 0) (tC (.int 3)))) (tRet (tCallS (SpC (c_due_rows K)) (WE W) (tCons (tVar 6) (tCons (tVar 3) (tCons (tOp (rIxA K) (tVar 4) (tC (.int 2))) (tCons (tOp (rIxA K) (tVar 5) (tC (.int 0))) (tCons (tOp (rIxA K) (tVar 5) (tC (.int 1))) tNil))))))) tNext)
  (tSeq (tIfS (tTest (tOp (rEqP K) (tVar 0) (tC (.int 4)))) (tRet (tCallS (SpC (c_loss_rows K)) (WE W) (tCons (tVar 6) (tCons (tVar 7) (tCons (tVar 2) (tCons (tVar 3) (tCons (tOp (rIxA K) (tVar 4) (tC (.int 0))) (tCons (tOp (rIxA K) (tVar 4) (tC (.int 2))) (tCons (tOp (rIxA K) (tVar 5) (tC (.int 0))) tNil))))))))) tNext)
  (tSeq (tIfS (tTest (tOp (rEqP K) (tVar 0) (tC (.int 5)))) (tRet (tCallS (SpC (c_turn_rows K)) (WE W) (tCons (tVar 6) (tCons (tVar 7) (tCons (tVar 2) (tCons (tVar 3) (tCons (tOp (rIxA K) (tVar 4) (tC (.int 2))) (tCons (tOp (rIxA K) (tVar 5) (tC (.int 0))) (tCons (tOp (rIxA K) (tVar 5) (tC (.int 1))) tNil))))))))) tNext)
  (tSeq (tIfS (tTest (tOp (rEqP K) (tVar 0) (tC (.int 6)))) (tRet (tCallS (SpC (c_line_rows K)) (WE W) (tCons (tVar 6) (tCons (tOp (rIxA K) (tVar 4) (tC (.int 3))) (tCons (tVar 2) (tCons (tVar 3) (tCons (tOp (rIxA K) (tVar 4) (tC (.int 4))) (tCons (tOp (rIxA K) (tVar 4) (tC (.int 5))) (tCons (tOp (rIxA K) (tVar 4) (tC (.int 0))) (tCons (tOp (rIxA K) (tVar 4) (tC (.int 1))) tNil)))))))))) tNext)
  (tSeq (tIfS (tTest (tOp (rEqP K) (tVar 0) (tC (.int 7)))) (tRet (tCallS (SpC (c_road_letters K)) (WE W) (tCons (tOp (rIxA K) (tVar 4) (tC (.int 3))) (tCons (tOp rAddA (tOp (rIxA K) (tVar 4) (tC (.int 3))) (tC (.int 1))) (tCons (tVar 2) (tCons (tVar 3) (tCons (tOp (rIxA K) (tVar 4) (tC (.int 2))) tNil))))))) tNext)
  (tRet (tCallS (SpC (c_watch_sights K)) (WE W) (tCons (tVar 6) (tCons (tOp (rIxA K) (tVar 4) (tC (.int 3))) (tCons (tVar 2) (tCons (tVar 3) tNil)))))))))))))))
def r__law_asked (K : PySem.W.Frag) (W : WX) : TS :=
  (tSeq (tAsg (tC .non) (gName 6))
  (tSeq (tAsg (tC .non) (gName 7))
  (tSeq (fun D σ H => (fun W => (tAsg (tCallS (SpC (c__law_call K)) (WE W) (tCons (tVar 0) (tCons (tVar 1) (tCons (tVar 2) (tCons (tVar 3) (tCons (tVar 4) (tCons (tVar 5) tNil))))))) (gName 6))) (wCl K 8 W D ((Value.ref (He.ga K "BadPattern"), fun a cls d => (tAsg (tTup (tCons (tC (.str "pattern")) (tCons (tXf a cls d (He.ga K "BadPattern") "what" (tVar 8)) tNil))) (gName 7))) :: ((Value.ref (He.ga K "TooMany"), fun a cls d => (tAsg (tTup (tCons (tC (.str "many")) (tCons (tXf a cls d (He.ga K "TooMany") "what" (tVar 8)) tNil))) (gName 7))) :: []))) D σ H)
  (tRet (tIf (tTest (tOp rIsA (tVar 7) (tC .non))) (tTup (tCons (tC (.str "let")) (tCons (tVar 6) tNil))) (tVar 7))))))
def r__law_gap (K : PySem.W.Frag) (W : WX) : TS :=
  (tSeq (tAsg (tLc (iRng2 (tCons (tVar 2) (tCons (tOp rAddA (tVar 3) (tC (.int 1))) tNil))) (gName 6) tYes (tOp rSubA (tOp (rIxA K) (tVar 0) (tCallS (SpC (c__law_at K)) (WE W0) (tCons (tOp (rIxA K) (tVar 1) (tC (.int 0))) (tCons (tVar 6) tNil)))) (tOp (rIxA K) (tVar 0) (tCallS (SpC (c__law_at K)) (WE W0) (tCons (tOp (rIxA K) (tVar 1) (tC (.int 1))) (tCons (tVar 6) tNil))))) [6]) (gName 5))
  (tRet (tIf (tB (tVar 4)) (tCB (rMinA K) (tCons (tVar 5) tNil)) (tCB (rMaxA K) (tCons (tVar 5) tNil)))))
def r__law_numbers (K : PySem.W.Frag) (W : WX) : TS :=
  (tSeq (tAsg (tOp (rEqP K) (tCallS (SpC (c__law_draw K)) (WE W) (tCons (tVar 0) (tCons (tC (.int 2)) tNil))) (tC (.int 0))) (gName 6))
  (tSeq (tAsg (tOp rAddA (tCallS (SpC (c__law_gap K)) (WE W) (tCons (tVar 5) (tCons (tVar 2) (tCons (tVar 3) (tCons (tVar 4) (tCons (tC (.bl true)) tNil)))))) (tIf (tB (tVar 6)) (tC (.int 0)) (tCallS (SpC (c__law_draw K)) (WE W) (tCons (tVar 0) (tCons (tC (.int 3)) tNil))))) (gName 7))
  (tSeq (tAsg (tCB (rMaxA K) (tCons (tC (.int 0)) (tCons (tVar 7) (tCons (tOp rSubA (tCallS (SpC (c__law_gap K)) (WE W) (tCons (tVar 5) (tCons (tVar 2) (tCons (tVar 3) (tCons (tVar 4) (tCons (tC (.bl false)) tNil)))))) (tIf (tB (tVar 6)) (tC (.int 0)) (tCallS (SpC (c__law_draw K)) (WE W) (tCons (tVar 0) (tCons (tC (.int 3)) tNil))))) tNil)))) (gName 8))
  (tSeq (tAsg (tCallS (SpC (c__law_draw K)) (WE W) (tCons (tVar 0) (tCons (tC (.int 6)) tNil))) (gName 9))
  (tSeq (tIfS (tTest (tOp (rEqP K) (tVar 1) (tC (.int 3)))) (tAsg (tCB (rMaxA K) (tCons (tC (.int 0)) (tCons (tOp rAddA (tOp (rIxA K) (tVar 5) (tCallS (SpC (c__law_at K)) (WE W) (tCons (tOp (rIxA K) (tVar 2) (tC (.int 0))) (tCons (tVar 4) tNil)))) (tIf (tB (tVar 6)) (tC (.int 0)) (tCallS (SpC (c__law_draw K)) (WE W) (tCons (tVar 0) (tCons (tC (.int 2)) tNil))))) tNil))) (gName 9)) tNext)
  (tSeq (tIfS (tAnd (tTest (tOp (rEqP K) (tVar 1) (tC (.int 4)))) (tB (tVar 6))) (tAsg (tOp rSubA (tVar 7) (tVar 9)) (gName 7)) tNext)
  (tSeq (tIfS (tAnd (tTest (tOp (rEqP K) (tVar 1) (tC (.int 5)))) (tB (tVar 6))) (tAsg (tVar 8) (gName 9)) tNext)
  (tSeq (tIfS (tAnd (tTest (tOp (rEqP K) (tVar 1) (tC (.int 0)))) (tTest (tOp (rEqP K) (tCallS (SpC (c__law_draw K)) (WE W) (tCons (tVar 0) (tCons (tC (.int 4)) tNil))) (tC (.int 0))))) (tRet (tLst (tCons (tC .non) (tCons (tVar 8) (tCons (tVar 9) (tCons (tC (.int 1)) (tCons (tC (.int 0)) (tCons (tC (.int 9)) tNil)))))))) tNext)
  (tSeq (tIfS (tAnd (tTest (tOp (rEqP K) (tVar 1) (tC (.int 0)))) (tTest (tOp (rEqP K) (tCallS (SpC (c__law_draw K)) (WE W) (tCons (tVar 0) (tCons (tC (.int 4)) tNil))) (tC (.int 0))))) (tRet (tLst (tCons (tVar 7) (tCons (tC .non) (tCons (tVar 9) (tCons (tC (.int 1)) (tCons (tC (.int 0)) (tCons (tC (.int 9)) tNil)))))))) tNext)
  (tRet (tLst (tCons (tVar 7) (tCons (tVar 8) (tCons (tVar 9) (tCons (tC (.int 1)) (tCons (tC (.int 0)) (tCons (tC (.int 9)) tNil)))))))))))))))))
def r__law_counted (K : PySem.W.Frag) (W : WX) : TS :=
  (tSeq (tAsg (tCallS (SpC (c__law_words K)) (WE W) (tCons (tVar 0) (tCons (tC (.int 2)) tNil))) (gName 2))
  (tSeq (tAsg (tLst (tCons (tOp rAddA (tSl (rSlA K) (tOp (rIxA K) (tVar 2) (tC (.int 0))) tNoPart (tPart (tC (.int 8)))) (tC (.str "q"))) (tCons (tOp rAddA (tSl (rSlA K) (tOp (rIxA K) (tVar 2) (tC (.int 1))) tNoPart (tPart (tC (.int 8)))) (tC (.str "r"))) tNil))) (gName 2))
  (tSeq (tAsg (tCallS (SpC (c__law_span K)) (WE W) (tCons (tVar 0) tNil)) (gUn K 2 (gCons (gName 3) (gCons (gName 4) gNil))))
  (tSeq (tAsg (tCallS (SpC (c__law_sides K)) (WE W) (tCons (tVar 0) (tCons (tLst (tCons (tC (.str "m")) (tCons (tC (.str "n")) (tCons (tC (.str "o")) tNil)))) tNil))) (gName 5))
  (tSeq (tAsg (tCallS (SpC (c__law_counts K)) (WE W) (tCons (tVar 0) (tCons (tVar 2) (tCons (tVar 3) (tCons (tVar 4) (tCons (tC (.int 2)) tNil)))))) (gName 6))
  (tSeq (tIfS (tAnd (tTest (tOp (rInA K) (tVar 1) (tLst (tCons (tC (.int 1)) (tCons (tC (.int 2)) tNil))))) (tTest (tOp (rEqP K) (tCallS (SpC (c__law_draw K)) (WE W) (tCons (tVar 0) (tCons (tC (.int 2)) tNil))) (tC (.int 0))))) (tFor (iRng2 (tCons (tVar 3) (tCons (tOp rAddA (tVar 4) (tC (.int 1))) tNil))) (gName 7) (tSeq (tIfS (tAnd (tTest (tOp (rEqP K) (tVar 1) (tC (.int 1)))) (tTest (tOp rLtA (tVar 7) (tOp rAddA (tVar 3) (tC (.int 5)))))) (sDPut (tVar 6) (tCallS (SpC (c__law_at K)) (WE W) (tCons (tOp (rIxA K) (tVar 2) (tC (.int 0))) (tCons (tVar 7) tNil))) (tC (.int 0))) tNext)
  (sDPut (tVar 6) (tCallS (SpC (c__law_at K)) (WE W) (tCons (tOp (rIxA K) (tVar 2) (tC (.int 1))) (tCons (tVar 7) tNil))) (tOp rAddA (tOp (rIxA K) (tVar 6) (tCallS (SpC (c__law_at K)) (WE W) (tCons (tOp (rIxA K) (tVar 2) (tC (.int 0))) (tCons (tVar 7) tNil)))) (tC (.int 10)))))) tNext)
  (tSeq (tAsg (tCallS (SpC (c__law_numbers K)) (WE W) (tCons (tVar 0) (tCons (tVar 1) (tCons (tVar 2) (tCons (tVar 3) (tCons (tVar 4) (tCons (tVar 6) tNil))))))) (gName 8))
  (tSeq (tAsg (tLst (tCons (tCB (rListA K) (tCons (tOp (rIxA K) (tVar 5) (tC (.int 0))) tNil)) (tCons (tCB (rListA K) (tCons (tOp (rIxA K) (tVar 5) (tC (.int 1))) tNil)) tNil))) (gName 9))
  (tSeq (tAsg (tCallS (SpC (c__law_asked K)) (WE W) (tCons (tVar 1) (tCons (tVar 2) (tCons (tVar 3) (tCons (tVar 4) (tCons (tVar 8) (tCons (tVar 9) tNil))))))) (gName 10))
  (tSeq (tAsg (tCallS (SpC (c__law_sided K)) (WE W) (tCons (tCallS (SpC (c__law_own K)) (WE W) (tCons (tVar 1) (tCons (tVar 2) (tCons (tVar 3) (tCons (tVar 4) (tCons (tVar 8) tNil)))))) (tCons (tLst (tCons (tOp (rIxA K) (tVar 5) (tC (.int 0))) (tCons (tIf (tTest (tOp (rEqP K) (tVar 1) (tC (.int 4)))) (tLst tNil) (tOp (rIxA K) (tVar 5) (tC (.int 1)))) tNil))) tNil))) (gName 11))
  (tSeq (tIfS (tOr (tTest (tOp (rNeP K) (tVar 10) (tTup (tCons (tC (.str "let")) (tCons (tVar 11) tNil))))) (tOr (tTest (tOp (rNeP K) (tVar 9) (tVar 5))) (tNot (tB (tCB (rIsi K) (tCons (tOp (rIxA K) (tVar 10) (tC (.int 1))) (tCons (tC (.ty "list")) tNil))))))) (tRet (tC (.bl false))) tNext)
  (tSeq (tFor (iSq K (tOp (rIxA K) (tVar 10) (tC (.int 1)))) (gName 12) (tIfS (tNot (tB (tCB (rIsi K) (tCons (tVar 12) (tCons (tC (.ty "tuple")) tNil))))) (tRet (tC (.bl false))) tNext))
  (tSeq (tAsg (tCallS (SpC (c__law_meaning K)) (WE W) (tCons (tVar 1) (tCons (tVar 2) (tCons (tVar 3) (tCons (tVar 4) (tCons (tVar 8) (tCons (tVar 6) tNil))))))) (gName 13))
  (tSeq (tIfS (tTest (tOp (rNeP K) (tCallS (SpC (c__law_keeps K)) (WE W) (tCons (tOp (rIxA K) (tVar 10) (tC (.int 1))) (tCons (tVar 6) tNil))) (tVar 13))) (tRet (tC (.bl false))) tNext)
  (tSeq (tFor (iSq K (tOp (rIxA K) (tVar 10) (tC (.int 1)))) (gName 12) (tSeq (tDrop (tBM K "list" rAppend (tOp (rIxA K) (tVar 12) (tC (.int 3))) (tCons (tC (.str "z")) tNil)))
  (tDrop (tBM K "list" rAppend (tOp (rIxA K) (tVar 12) (tC (.int 4))) (tCons (tC (.str "z")) tNil)))))
  (tRet (tAndV (tOp (rEqP K) (tVar 9) (tVar 5)) (tOp (rEqP K) (tCallS (SpC (c__law_asked K)) (WE W) (tCons (tVar 1) (tCons (tVar 2) (tCons (tVar 3) (tCons (tVar 4) (tCons (tVar 8) (tCons (tVar 9) tNil))))))) (tTup (tCons (tC (.str "let")) (tCons (tVar 11) tNil)))))))))))))))))))))
def r__law_lined (K : PySem.W.Frag) (W : WX) : TS :=
  (tSeq (tAsg (tSl (rSlA K) (tCallS (SpC (c__law_word K)) (WE W) (tCons (tVar 0) (tCons (tLst tNil) tNil))) tNoPart (tPart (tC (.int 9)))) (gName 1))
  (tSeq (tAsg (tCallS (SpC (c__law_span K)) (WE W) (tCons (tVar 0) tNil)) (gUn K 2 (gCons (gName 2) (gCons (gName 3) gNil))))
  (tSeq (tAsg (tOp (rIxA K) (tLst (tCons (tC .non) (tCons (tOp rSubA (tCallS (SpC (c__law_draw K)) (WE W) (tCons (tVar 0) (tCons (tC (.int 4)) tNil))) (tC (.int 2))) tNil))) (tCallS (SpC (c__law_draw K)) (WE W) (tCons (tVar 0) (tCons (tC (.int 2)) tNil)))) (gName 4))
  (tSeq (tAsg (tOp (rIxA K) (tLst (tCons (tC .non) (tCons (tOp rAddA (tC (.int 2)) (tCallS (SpC (c__law_draw K)) (WE W) (tCons (tVar 0) (tCons (tC (.int 4)) tNil)))) tNil))) (tCallS (SpC (c__law_draw K)) (WE W) (tCons (tVar 0) (tCons (tC (.int 2)) tNil)))) (gName 5))
  (tSeq (tAsg (tOp rAddA (tC (.int 1)) (tCallS (SpC (c__law_draw K)) (WE W) (tCons (tVar 0) (tCons (tC (.int 8)) tNil)))) (gName 6))
  (tSeq (tAsg (tLst (tCons (tCallS (SpC (c__law_number K)) (WE W) (tCons (tVar 0) (tCons (tC (.int 4)) tNil))) (tCons (tCallS (SpC (c__law_number K)) (WE W) (tCons (tVar 0) (tCons (tC (.int 4)) tNil))) tNil))) (gName 7))
  (tSeq (tAsg (tCallS (SpC (c__law_asked K)) (WE W) (tCons (tC (.int 6)) (tCons (tLst (tCons (tVar 1) (tCons (tC (.str "")) tNil))) (tCons (tVar 2) (tCons (tVar 3) (tCons (tLst (tCons (tVar 4) (tCons (tVar 5) (tCons (tC (.int 0)) (tCons (tVar 6) (tCons (tOp (rIxA K) (tVar 7) (tC (.int 0))) (tCons (tOp (rIxA K) (tVar 7) (tC (.int 1))) tNil))))))) (tCons (tLst (tCons (tLst tNil) (tCons (tLst tNil) tNil))) tNil))))))) (gName 8))
  (tSeq (tAsg (tLc (iRng2 (tCons (tVar 2) (tCons (tOp rAddA (tVar 3) (tC (.int 1))) tNil))) (gName 11) tYes (tTup (tCons (tCallS (SpC (c__law_at K)) (WE W0) (tCons (tVar 1) (tCons (tVar 11) tNil))) (tCons (tVar 6) (tCons (tVar 11) (tCons (tOp (rIxA K) (tVar 7) (tC (.int 0))) (tCons (tOp (rIxA K) (tVar 7) (tC (.int 1))) tNil)))))) [11]) (gName 9))
  (tSeq (tAsg (tLst tNil) (gName 10))
  (tSeq (tFor (iRng2 (tCons (tOp rAddA (tVar 2) (tC (.int 1))) (tCons (tOp rAddA (tVar 3) (tC (.int 1))) tNil))) (gName 11) (tSeq (tIfS (tTest (tOp rIsNotA (tVar 4) (tC .non))) (tDrop (tBM K "list" rAppend (tVar 10) (tCons (tTup (tCons (tCallS (SpC (c__law_at K)) (WE W) (tCons (tVar 1) (tCons (tOp rSubA (tVar 11) (tC (.int 1))) tNil))) (tCons (tCallS (SpC (c__law_at K)) (WE W) (tCons (tVar 1) (tCons (tVar 11) tNil))) (tCons (tUn rUnA (tVar 4)) (tCons (tLst tNil) (tCons (tLst tNil) tNil)))))) tNil))) tNext)
  (tIfS (tTest (tOp rIsNotA (tVar 5) (tC .non))) (tDrop (tBM K "list" rAppend (tVar 10) (tCons (tTup (tCons (tCallS (SpC (c__law_at K)) (WE W) (tCons (tVar 1) (tCons (tVar 11) tNil))) (tCons (tCallS (SpC (c__law_at K)) (WE W) (tCons (tVar 1) (tCons (tOp rSubA (tVar 11) (tC (.int 1))) tNil))) (tCons (tVar 5) (tCons (tLst tNil) (tCons (tLst tNil) tNil)))))) tNil))) tNext)))
  (tSeq (tIfS (tTest (tOp (rNeP K) (tVar 8) (tTup (tCons (tC (.str "let")) (tCons (tTup (tCons (tVar 9) (tCons (tVar 10) tNil))) tNil))))) (tRet (tC (.bl false))) tNext)
  (tSeq (tAsg tDNewK (gName 12))
  (tSeq (tAsg (tC (.int 0)) (gName 13))
  (tSeq (tAsg (tC (.bl true)) (gName 14))
  (tSeq (tFor (iRng2 (tCons (tVar 2) (tCons (tOp rAddA (tVar 3) (tC (.int 1))) tNil))) (gName 11) (tSeq (tAsg (tOp rSubA (tCallS (SpC (c__law_draw K)) (WE W) (tCons (tVar 0) (tCons (tC (.int 9)) tNil))) (tC (.int 2))) (gName 15))
  (tSeq (tAsg (tOp rAddA (tVar 13) (tVar 15)) (gName 13))
  (tSeq (sDPut (tVar 12) (tCallS (SpC (c__law_at K)) (WE W) (tCons (tVar 1) (tCons (tVar 11) tNil))) (tVar 13))
  (tIfS (tAnd (tTest (tOp rGtA (tVar 11) (tVar 2))) (tOr (tAnd (tTest (tOp rIsNotA (tVar 4) (tC .non))) (tTest (tOp rLtA (tVar 15) (tVar 4)))) (tAnd (tTest (tOp rIsNotA (tVar 5) (tC .non))) (tTest (tOp rGtA (tVar 15) (tVar 5)))))) (tAsg (tC (.bl false)) (gName 14)) tNext)))))
  (tRet (tAndV (tOp (rEqP K) (tCallS (SpC (c__law_keeps K)) (WE W) (tCons (tOp (rIxA K) (tOp (rIxA K) (tVar 8) (tC (.int 1))) (tC (.int 1))) (tCons (tVar 12) tNil))) (tVar 14)) (tCB (rIsi K) (tCons (tOp (rIxA K) (tVar 8) (tC (.int 1))) (tCons (tC (.ty "tuple")) tNil))))))))))))))))))))
def r__law_sent (K : PySem.W.Frag) (W : WX) : TS :=
  (tSeq (tAsg (tCallS (SpC (c__law_span K)) (WE W) (tCons (tVar 0) tNil)) (gUn K 2 (gCons (gName 1) (gCons (gName 2) gNil))))
  (tSeq (tAsg (tOp rAddA (tC (.int 1)) (tCallS (SpC (c__law_draw K)) (WE W) (tCons (tVar 0) (tCons (tC (.int 5)) tNil)))) (gName 3))
  (tSeq (tAsg (tOp rAddA (tC (.int 1)) (tCallS (SpC (c__law_draw K)) (WE W) (tCons (tVar 0) (tCons (tC (.int 7)) tNil)))) (gName 4))
  (tSeq (tAsg (tCallS (SpC (c__law_word K)) (WE W) (tCons (tVar 0) (tCons (tLst tNil) tNil))) (gName 5))
  (tSeq (tAsg (tCallS (SpC (c__law_asked K)) (WE W) (tCons (tC (.int 7)) (tCons (tLst (tCons (tC (.str "")) (tCons (tC (.str "")) tNil))) (tCons (tVar 1) (tCons (tVar 2) (tCons (tLst (tCons (tC (.int 0)) (tCons (tC (.int 0)) (tCons (tVar 3) (tCons (tVar 4) tNil))))) (tCons (tLst tNil) tNil))))))) (gName 6))
  (tSeq (tIfS (tTest (tOp (rNeP K) (tVar 6) (tTup (tCons (tC (.str "let")) (tCons (tLc (iRng2 (tCons (tVar 1) (tCons (tOp rAddA (tVar 2) (tC (.int 1))) tNil))) (gName 7) tYes (tTup (tCons (tVar 4) (tCons (tVar 7) (tCons (tOp rAddA (tVar 4) (tC (.int 1))) (tCons (tOp rAddA (tVar 7) (tVar 3)) (tCons (tLst tNil) (tCons (tLst tNil) tNil))))))) [7]) tNil))))) (tRet (tC (.bl false))) tNext)
  (tSeq (tAsg (tCallS (SpC (c__law_asked K)) (WE W) (tCons (tC (.int 8)) (tCons (tLst (tCons (tVar 5) (tCons (tC (.str "")) tNil))) (tCons (tVar 1) (tCons (tVar 2) (tCons (tLst (tCons (tC (.int 0)) (tCons (tC (.int 0)) (tCons (tC (.int 0)) (tCons (tVar 4) tNil))))) (tCons (tLst tNil) tNil))))))) (gName 6))
  (tSeq (tIfS (tTest (tOp (rNeP K) (tVar 6) (tTup (tCons (tC (.str "let")) (tCons (tLc (iRng2 (tCons (tVar 1) (tCons (tOp rAddA (tVar 2) (tC (.int 1))) tNil))) (gName 7) tYes (tTup (tCons (tVar 5) (tCons (tVar 4) (tCons (tVar 7) (tCons (tC .non) (tCons (tC (.int 0)) tNil)))))) [7]) tNil))))) (tRet (tC (.bl false))) tNext)
  (tRet (tOp (rEqP K) (tCallS (SpC (c__law_asked K)) (WE W) (tCons (tC (.int 7)) (tCons (tLst (tCons (tC (.str "")) (tCons (tC (.str "")) tNil))) (tCons (tVar 1) (tCons (tVar 2) (tCons (tLst (tCons (tC (.int 0)) (tCons (tC (.int 0)) (tCons (tC (.int 0)) (tCons (tVar 4) tNil))))) (tCons (tLst tNil) tNil))))))) (tTup (tCons (tC (.str "pattern")) (tCons (tC (.str "number")) tNil)))))))))))))
def r__law_refused (K : PySem.W.Frag) (W : WX) : TS :=
  (tSeq (tAsg (tLst (tCons (tC (.str "a")) (tCons (tC (.str "b")) tNil))) (gName 2))
  (tSeq (tAsg (tLst (tCons (tLst tNil) (tCons (tLst tNil) tNil))) (gName 3))
  (tSeq (tAsg (tLst (tCons (tC (.int 0)) (tCons (tC (.int 1)) (tCons (tC (.int 1)) (tCons (tC (.int 1)) (tCons (tC (.int 0)) (tCons (tC (.int 9)) tNil))))))) (gName 4))
  (tSeq (tIfS (tTest (tOp (rNeP K) (tOp (rIxA K) (tCallS (SpC (c__law_asked K)) (WE W) (tCons (tVar 1) (tCons (tVar 2) (tCons (tC (.int 0)) (tCons (tC (.int 24)) (tCons (tVar 4) (tCons (tVar 3) tNil))))))) (tC (.int 0))) (tC (.str "let")))) (tRet (tC (.bl false))) tNext)
  (tSeq (tIfS (tTest (tOp (rNeP K) (tCallS (SpC (c__law_asked K)) (WE W) (tCons (tVar 1) (tCons (tVar 2) (tCons (tC (.int 0)) (tCons (tC (.int 25)) (tCons (tVar 4) (tCons (tVar 3) tNil))))))) (tTup (tCons (tC (.str "many")) (tCons (tC (.str "moments")) tNil))))) (tRet (tC (.bl false))) tNext)
  (tSeq (tIfS (tTest (tOp (rNeP K) (tCallS (SpC (c__law_asked K)) (WE W) (tCons (tVar 1) (tCons (tLst (tCons (tC (.str "")) (tCons (tC (.str "B")) tNil))) (tCons (tC (.int 0)) (tCons (tC (.int 25)) (tCons (tLst (tCons (tC (.int 2)) (tCons (tUn rUnA (tC (.int 1))) (tCons (tUn rUnA (tC (.int 1))) (tCons (tC (.int 1)) (tCons (tC (.int 0)) (tCons (tC (.int 9)) tNil))))))) (tCons (tVar 3) tNil))))))) (tTup (tCons (tC (.str "many")) (tCons (tC (.str "moments")) tNil))))) (tRet (tC (.bl false))) tNext)
  (tSeq (tIfS (tAnd (tTest (tOp (rNeP K) (tVar 1) (tC (.int 3)))) (tTest (tOp (rNeP K) (tCallS (SpC (c__law_asked K)) (WE W) (tCons (tVar 1) (tCons (tLst (tCons (tC (.str "")) (tCons (tC (.str "B")) tNil))) (tCons (tC (.int 3)) (tCons (tC (.int 2)) (tCons (tLst (tCons (tC (.int 2)) (tCons (tC (.int 1)) (tCons (tUn rUnA (tC (.int 1))) (tCons (tC (.int 1)) (tCons (tC (.int 0)) (tCons (tC (.int 9)) tNil))))))) (tCons (tVar 3) tNil))))))) (tTup (tCons (tC (.str "pattern")) (tCons (tC (.str "moments")) tNil)))))) (tRet (tC (.bl false))) tNext)
  (tSeq (tIfS (tTest (tOp (rNeP K) (tCallS (SpC (c__law_asked K)) (WE W) (tCons (tVar 1) (tCons (tLst (tCons (tC (.str "")) (tCons (tC (.str "B")) tNil))) (tCons (tUn rUnA (tC (.int 1))) (tCons (tIf (tTest (tOp (rEqP K) (tVar 1) (tC (.int 3)))) (tUn rUnA (tC (.int 1))) (tC (.int 2))) (tCons (tLst (tCons (tC (.int 2)) (tCons (tC (.int 1)) (tCons (tUn rUnA (tC (.int 1))) (tCons (tC (.int 1)) (tCons (tC (.int 0)) (tCons (tC (.int 9)) tNil))))))) (tCons (tVar 3) tNil))))))) (tTup (tCons (tC (.str "pattern")) (tCons (tC (.str "moments")) tNil))))) (tRet (tC (.bl false))) tNext)
  (tSeq (tIfS (tTest (tOp (rNeP K) (tVar 1) (tC (.int 7)))) (tSeq (tAsg (tOp (rIxA K) (tLst (tCons (tC (.str "")) (tCons (tC (.str "A")) (tCons (tC (.str "if")) (tCons (tC (.str "1a")) (tCons (tC (.str "abcdefghijklm")) (tCons (tC (.str "a b")) tNil))))))) (tCallS (SpC (c__law_draw K)) (WE W) (tCons (tVar 0) (tCons (tC (.int 6)) tNil)))) (gName 5))
  (tIfS (tTest (tOp (rNeP K) (tCallS (SpC (c__law_asked K)) (WE W) (tCons (tVar 1) (tCons (tLst (tCons (tVar 5) (tCons (tC (.str "b")) tNil))) (tCons (tC (.int 0)) (tCons (tC (.int 3)) (tCons (tLst (tCons (tC (.int 2)) (tCons (tC (.int 1)) (tCons (tUn rUnA (tC (.int 1))) (tCons (tC (.int 1)) (tCons (tC (.int 0)) (tCons (tC (.int 9)) tNil))))))) (tCons (tVar 3) tNil))))))) (tTup (tCons (tC (.str "pattern")) (tCons (tC (.str "name")) tNil))))) (tRet (tC (.bl false))) tNext)) tNext)
  (tSeq (tIfS (tTest (tOp rLtA (tVar 1) (tC (.int 7)))) (tSeq (tAsg (tC (.str "abcdefghij")) (gName 6))
  (tSeq (tIfS (tTest (tOp (rNeP K) (tOp (rIxA K) (tCallS (SpC (c__law_asked K)) (WE W) (tCons (tVar 1) (tCons (tLst (tCons (tVar 6) (tCons (tC (.str "b")) tNil))) (tCons (tC (.int 9)) (tCons (tC (.int 9)) (tCons (tVar 4) (tCons (tVar 3) tNil))))))) (tC (.int 0))) (tC (.str "let")))) (tRet (tC (.bl false))) tNext)
  (tIfS (tTest (tOp (rNeP K) (tCallS (SpC (c__law_asked K)) (WE W) (tCons (tVar 1) (tCons (tLst (tCons (tVar 6) (tCons (tC (.str "b")) tNil))) (tCons (tC (.int 9)) (tCons (tC (.int 10)) (tCons (tVar 4) (tCons (tVar 3) tNil))))))) (tTup (tCons (tC (.str "pattern")) (tCons (tC (.str "name")) tNil))))) (tRet (tC (.bl false))) tNext))) tNext)
  (tSeq (tIfS (tAnd (tTest (tOp (rInA K) (tVar 1) (tLst (tCons (tC (.int 0)) (tCons (tC (.int 1)) (tCons (tC (.int 2)) (tCons (tC (.int 4)) (tCons (tC (.int 5)) tNil)))))))) (tTest (tOp (rNeP K) (tCallS (SpC (c__law_asked K)) (WE W) (tCons (tVar 1) (tCons (tLst (tCons (tC (.str "a")) (tCons (tC (.str "B")) tNil))) (tCons (tC (.int 0)) (tCons (tC (.int 3)) (tCons (tVar 4) (tCons (tVar 3) tNil))))))) (tTup (tCons (tC (.str "pattern")) (tCons (tC (.str "name")) tNil)))))) (tRet (tC (.bl false))) tNext)
  (tSeq (tAsg (tLst (tCons (tLst (tCons (tLst (tCons (tC (.int 1)) (tCons (tC (.int 0)) (tCons (tC (.int 1)) tNil)))) (tCons (tLst (tCons (tC (.int 0)) (tCons (tUn rUnA (tC (.int 1))) (tCons (tC (.int 1)) tNil)))) (tCons (tLst (tCons (tUn rUnA (tC (.int 5))) (tCons (tUn rUnA (tC (.int 1))) (tCons (tC (.int 1)) tNil)))) (tCons (tLst (tCons (tC .non) (tCons (tUn rUnA (tC (.int 1))) (tCons (tC (.int 1)) tNil)))) tNil))))) (tCons (tLst (tCons (tLst (tCons (tC (.int 0)) (tCons (tC (.int 1)) (tCons (tUn rUnA (tC (.int 1))) tNil)))) tNil)) (tCons (tLst (tCons (tLst (tCons (tC (.int 0)) (tCons (tC (.int 1)) (tCons (tUn rUnA (tC (.int 1))) tNil)))) tNil)) (tCons (tLst (tCons (tLst (tCons (tC (.int 0)) (tCons (tC (.int 1)) (tCons (tUn rUnA (tC (.int 1))) tNil)))) tNil)) (tCons (tLst (tCons (tLst (tCons (tC (.int 0)) (tCons (tC (.int 1)) (tCons (tUn rUnA (tC (.int 1))) tNil)))) tNil)) tNil)))))) (gName 7))
  (tSeq (tAsg (tOp rAddA (tVar 7) (tLst (tCons (tLst (tCons (tLst (tCons (tC (.int 0)) (tCons (tC (.int 1)) (tCons (tUn rUnA (tC (.int 1))) tNil)))) tNil)) (tCons (tLst (tCons (tLst (tCons (tC (.int 1)) (tCons (tC (.int 0)) (tCons (tC (.int 1)) tNil)))) (tCons (tLst (tCons (tC .non) (tCons (tUn rUnA (tC (.int 1))) (tCons (tC (.int 1)) tNil)))) (tCons (tLst (tCons (tUn rUnA (tC (.int 5))) (tCons (tUn rUnA (tC (.int 1))) (tCons (tC (.int 1)) tNil)))) tNil)))) (tCons (tLst (tCons (tLst (tCons (tC (.int 0)) (tCons (tC (.int 1)) (tCons (tC (.int 0)) tNil)))) (tCons (tLst (tCons (tC (.int 0)) (tCons (tC (.int 1)) (tCons (tUn rUnA (tC (.int 1))) tNil)))) tNil))) (tCons (tLst tNil) tNil)))))) (gName 7))
  (tSeq (tFor (iSq K (tOp (rIxA K) (tVar 7) (tVar 1))) (gName 8) (tIfS (tTest (tOp (rNeP K) (tCallS (SpC (c__law_asked K)) (WE W) (tCons (tVar 1) (tCons (tVar 2) (tCons (tC (.int 0)) (tCons (tC (.int 3)) (tCons (tOp rAddA (tVar 8) (tLst (tCons (tC (.int 1)) (tCons (tC (.int 0)) (tCons (tC (.int 9)) tNil))))) (tCons (tVar 3) tNil))))))) (tTup (tCons (tC (.str "pattern")) (tCons (tC (.str "number")) tNil))))) (tRet (tC (.bl false))) tNext))
  (tSeq (tAsg (tOp rAddA (tOp rPowA (tC (.int 10)) (tC (.int 9))) (tC (.int 1))) (gName 9))
  (tSeq (tAsg (tLst (tCons (tLst (tCons (tC (.int 0)) (tCons (tC (.int 1)) tNil))) (tCons (tLst (tCons (tC (.int 2)) tNil)) (tCons (tLst (tCons (tC (.int 2)) tNil)) (tCons (tLst (tCons (tC (.int 2)) tNil)) (tCons (tLst (tCons (tC (.int 0)) (tCons (tC (.int 2)) tNil))) (tCons (tLst (tCons (tC (.int 2)) tNil)) (tCons (tLst (tCons (tC (.int 0)) (tCons (tC (.int 1)) (tCons (tC (.int 4)) (tCons (tC (.int 5)) tNil))))) (tCons (tLst (tCons (tC (.int 2)) tNil)) (tCons (tLst tNil) tNil)))))))))) (gName 10))
  (tSeq (tFor (iSq K (tOp (rIxA K) (tVar 10) (tVar 1))) (gName 11) (tSeq (tAsg (tCB (rListA K) (tCons (tVar 4) tNil)) (gName 12))
  (tSeq (tAsg (tIf (tTest (tOp (rNeP K) (tVar 11) (tC (.int 0)))) (tVar 9) (tUn rUnA (tVar 9))) (gSub (tVar 12) (tVar 11) rSetL))
  (tSeq (tIfS (tTest (tOp (rNeP K) (tCallS (SpC (c__law_asked K)) (WE W) (tCons (tVar 1) (tCons (tLst (tCons (tC (.str "")) (tCons (tC (.str "b")) tNil))) (tCons (tC (.int 3)) (tCons (tC (.int 2)) (tCons (tVar 12) (tCons (tVar 3) tNil))))))) (tTup (tCons (tC (.str "many")) (tCons (tC (.str "numbers")) tNil))))) (tRet (tC (.bl false))) tNext)
  (tSeq (tAsg (tOp rAddA (tOp (rIxA K) (tVar 12) (tVar 11)) (tIf (tTest (tOp (rEqP K) (tVar 11) (tC (.int 0)))) (tC (.int 1)) (tUn rUnA (tC (.int 1))))) (gSub (tVar 12) (tVar 11) rSetL))
  (tIfS (tTest (tOp (rNeP K) (tOp (rIxA K) (tCallS (SpC (c__law_asked K)) (WE W) (tCons (tVar 1) (tCons (tVar 2) (tCons (tC (.int 0)) (tCons (tC (.int 0)) (tCons (tVar 12) (tCons (tVar 3) tNil))))))) (tC (.int 0))) (tC (.str "let")))) (tRet (tC (.bl false))) tNext))))))
  (tRet (tC (.bl true))))))))))))))))))))
def r_law (K : PySem.W.Frag) (W : WX) : TS :=
  (tSeq (tAsg (tCallS (sp__law_purse K) (WE W) (tCons (tVar 0) (tCons (tC (.int 0)) tNil))) (gName 1))
  (tSeq (tFor (iRng1 (tCons (tC (.int 2)) tNil)) (gName 2) (tSeq (tFor (iRng1 (tCons (tC (.int 6)) tNil)) (gName 3) (tIfS (tNot (tB (tCallS (SpC (c__law_counted K)) (WE W) (tCons (tVar 1) (tCons (tVar 3) tNil))))) (tRet (tC (.bl false))) tNext))
  (tIfS (tOr (tNot (tB (tCallS (SpC (c__law_lined K)) (WE W) (tCons (tVar 1) tNil)))) (tNot (tB (tCallS (SpC (c__law_sent K)) (WE W) (tCons (tVar 1) tNil))))) (tRet (tC (.bl false))) tNext)))
  (tSeq (tFor (iRng1 (tCons (tC (.int 9)) tNil)) (gName 3) (tIfS (tNot (tB (tCallS (SpC (c__law_refused K)) (WE W) (tCons (tVar 1) (tCons (tVar 3) tNil))))) (tRet (tC (.bl false))) tNext))
  (tRet (tC (.bl true))))))
end K03
end AB

set_option Elab.async false
set_option linter.all false
set_option maxRecDepth 100000
set_option maxHeartbeats 4000000
set_option autoImplicit false
namespace AB
open PySem L2 PySem.Spec PyProof.Rows He
namespace K03
theorem exd0 {Q : List D → Prop} (h : Q []) : ∃ ds : List D, [] = ds.map Sl.da ∧ ds.length ≤ sizeLine ∧ Q ds := ⟨[], rfl, by rw [sizeLine_eq]; exact Nat.le_of_ble_eq_true rfl, h⟩
theorem exd1 {a : D} {Q : List D → Prop} (h : Q [a]) : ∃ ds : List D, [Sl.da a] = ds.map Sl.da ∧ ds.length ≤ sizeLine ∧ Q ds := ⟨[a], rfl, by rw [sizeLine_eq]; exact Nat.le_of_ble_eq_true rfl, h⟩
theorem exd2 {a b : D} {Q : List D → Prop} (h : Q [a, b]) : ∃ ds : List D, [Sl.da a, Sl.da b] = ds.map Sl.da ∧ ds.length ≤ sizeLine ∧ Q ds := ⟨[a, b], rfl, by rw [sizeLine_eq]; exact Nat.le_of_ble_eq_true rfl, h⟩
theorem exd3 {a b c : D} {Q : List D → Prop} (h : Q [a, b, c]) : ∃ ds : List D, [Sl.da a, Sl.da b, Sl.da c] = ds.map Sl.da ∧ ds.length ≤ sizeLine ∧ Q ds := ⟨[a, b, c], rfl, by rw [sizeLine_eq]; exact Nat.le_of_ble_eq_true rfl, h⟩
theorem exd4 {a b c d : D} {Q : List D → Prop} (h : Q [a, b, c, d]) : ∃ ds : List D, [Sl.da a, Sl.da b, Sl.da c, Sl.da d] = ds.map Sl.da ∧ ds.length ≤ sizeLine ∧ Q ds := ⟨[a, b, c, d], rfl, by rw [sizeLine_eq]; exact Nat.le_of_ble_eq_true rfl, h⟩
theorem exd5 {a b c d e : D} {Q : List D → Prop} (h : Q [a, b, c, d, e]) : ∃ ds : List D, [Sl.da a, Sl.da b, Sl.da c, Sl.da d, Sl.da e] = ds.map Sl.da ∧ ds.length ≤ sizeLine ∧ Q ds := ⟨[a, b, c, d, e], rfl, by rw [sizeLine_eq]; exact Nat.le_of_ble_eq_true rfl, h⟩
theorem exd6 {a b c d e f : D} {Q : List D → Prop} (h : Q [a, b, c, d, e, f]) : ∃ ds : List D, [Sl.da a, Sl.da b, Sl.da c, Sl.da d, Sl.da e, Sl.da f] = ds.map Sl.da ∧ ds.length ≤ sizeLine ∧ Q ds := ⟨[a, b, c, d, e, f], rfl, by rw [sizeLine_eq]; exact Nat.le_of_ble_eq_true rfl, h⟩
theorem cat_in {K : PySem.W.Frag} {n : Str} {t : Int} {o : O} {P : Sl → O → Prop} {X : Addr → List (Str × D) → O → Prop} (h1 : n.length ≤ 1000) (h2 : 0 ≤ t) (h3 : t ≤ 1000) (p : P (.da (.str (atM n t))) o) : c_at_moment K [.da (.str n), .da (.int t)] o P X := ⟨n, t, rfl, h1, h2, h3, p⟩
abbrev Wf (t : TS) (N : Nat) (B : Base) (ss : List Sl) (o : O) (Rt : Sl → O → Prop) : Prop := WS B t { nx := fun _ o => Rt (.da .non) o, rt := Rt } (ss.map some ++ List.replicate (N - ss.length) none) o
theorem o_isNotI {i : Int} {B : Base} {o : O} {P : Sl → O → Prop} (p : P (.da (.bl true)) o) : A2 B rIsNotA (.da (.int i)) (.da .non) o P := o_isNot (fun _ z => by cases z) p
theorem o_isNotN {B : Base} {o : O} {P : Sl → O → Prop} (p : P (.da (.bl false)) o) : A2 B rIsNotA (.da .non) (.da .non) o P := o_isNot (fun _ z => by cases z) p
theorem o_isNotS {i : Str} {B : Base} {o : O} {P : Sl → O → Prop} (p : P (.da (.bl true)) o) : A2 B rIsNotA (.da (.str i)) (.da .non) o P := o_isNot (fun _ z => by cases z) p
theorem o_isI {i : Int} {B : Base} {o : O} {P : Sl → O → Prop} (p : P (.da (.bl false)) o) : A2 B rIsA (.da (.int i)) (.da .non) o P := o_is (fun _ z => by cases z) p
theorem o_isN {B : Base} {o : O} {P : Sl → O → Prop} (p : P (.da (.bl true)) o) : A2 B rIsA (.da .non) (.da .non) o P := o_is (fun _ z => by cases z) p
theorem o_isS {i : Str} {B : Base} {o : O} {P : Sl → O → Prop} (p : P (.da (.bl false)) o) : A2 B rIsA (.da (.str i)) (.da .non) o P := o_is (fun _ z => by cases z) p
theorem o_isT {i : List D} {B : Base} {o : O} {P : Sl → O → Prop} (p : P (.da (.bl false)) o) : A2 B rIsA (.da (.tup i)) (.da .non) o P := o_is (fun _ z => by cases z) p
theorem ex2 {x y : Sl} {Q : Sl → Sl → Prop} (h : Q x y) : ∃ x' y', [x, y] = [x', y'] ∧ Q x' y' := ⟨x, y, rfl, h⟩
theorem eqv_int {x y : Int} : PyData.eqv (.int x) (.int y) = decide (x = y) := by simp [PyData.eqv, Bool.beq_eq_decide_eq]
theorem o_eqI {K : PySem.W.Frag} {B : Base} {o : O} {P : Sl → O → Prop} {i j : Int} (p : P (.da (.bl (decide (i = j)))) o) : A2 B (rEqP K) (.da (.int i)) (.da (.int j)) o P := o_eq rfl rfl (by simp [D.py, PyData.depth]) (by show P (.da (.bl (PyData.eqv (.int i) (.int j)))) o; rw [eqv_int]; exact p)
theorem o_neI {K : PySem.W.Frag} {B : Base} {o : O} {P : Sl → O → Prop} {i j : Int} (p : P (.da (.bl (!decide (i = j)))) o) : A2 B (rNeP K) (.da (.int i)) (.da (.int j)) o P := o_ne rfl rfl (by simp [D.py, PyData.depth]) (by show P (.da (.bl (!PyData.eqv (.int i) (.int j)))) o; rw [eqv_int]; exact p)
local macro_rules | `(tactic| walk_at "e") => `(tactic| repeat' (first
  | (with_reducible refine s_seq ?_) | (with_reducible refine s_if ?_) | (with_reducible refine s_drop ?_) | (with_reducible refine s_ret ?_) | (with_reducible refine s_next ?_) | (with_reducible refine s_asg ?_)
  | (with_reducible refine g_name ?_)
  | (with_reducible refine t_test ?_) | (with_reducible refine t_B ?_) | (with_reducible refine t_or ?_) | (with_reducible refine t_and ?_) | (with_reducible refine t_not ?_)
  | ((with_reducible apply e_var); rfl) | (with_reducible refine e_int ?_) | (with_reducible refine e_str ?_) | (with_reducible refine e_bl ?_) | (with_reducible refine e_non ?_)
  | (with_reducible refine e_raw ?_) | (with_reducible refine ite_tt ?_) | (with_reducible refine ite_ff ?_) | (with_reducible refine ite_ntt ?_) | (with_reducible refine ite_nff ?_) | (with_reducible refine n_isiS ?_) | (with_reducible refine n_isiL ?_) | (with_reducible refine n_isiT ?_)
  | (with_reducible refine e_op ?_) | (with_reducible refine e_un ?_) | (with_reducible refine e_cb ?_) | (with_reducible refine e_callA ?_) | (with_reducible refine e_andV ?_) | (with_reducible refine e_if ?_)
  | (with_reducible refine a_cons ?_) | (with_reducible refine a_nil ?_)
  | (with_reducible refine o_gt ?_) | (with_reducible refine o_lt ?_) | (with_reducible refine o_le ?_) | (with_reducible refine o_ge ?_) | (with_reducible refine o_add ?_) | (with_reducible refine o_sub ?_) | (with_reducible refine o_neg ?_)
  | (with_reducible refine e_tup ?_) | (with_reducible refine e_lst ?_) | (with_reducible refine exd0 ?_) | (with_reducible refine exd1 ?_) | (with_reducible refine exd2 ?_) | (with_reducible refine exd3 ?_) | (with_reducible refine exd4 ?_) | (with_reducible refine exd5 ?_) | (with_reducible refine exd6 ?_)
  | (with_reducible refine o_isNotI ?_) | (with_reducible refine o_isNotN ?_) | (with_reducible refine o_isNotS ?_) | (with_reducible refine o_isI ?_) | (with_reducible refine o_isN ?_) | (with_reducible refine o_isS ?_) | (with_reducible refine o_isT ?_)
  | (with_reducible refine t_yes ?_) | (with_reducible refine gw_name (by decide) ?_)
  | (with_reducible refine s_par ?_) | (with_reducible refine ex2 ?_) | (with_reducible refine o_eqI ?_) | (with_reducible refine o_neI ?_) | (with_reducible refine o_ixL (by assumption) (by assumption) ?_)
  | (with_reducible refine e_sl ?_) | (with_reducible refine l_none ?_) | (with_reducible refine l_some ?_)
  | (with_reducible refine n_list (by assumption) ?_)
  | (with_reducible refine cat_in (by first | assumption | omega) (by omega) (by omega) ?_)
  | (with_reducible refine ite_dec (fun h => absurd h (by decide)) (fun _ => ?_)) | (with_reducible refine ite_dec (fun _ => ?_) (fun h => absurd (by decide) h))
  | (with_reducible refine Exists.intro _ (And.intro rfl ?_))))
local macro_rules | `(tactic| walk_at "st") => `(tactic| simp only [List.map_cons, List.map_nil, List.length_cons, List.length_nil, Nat.reduceAdd, Nat.reduceSub, List.replicate, List.cons_append, List.nil_append])
variable {K : PySem.W.Frag} {B : Base} {W : WX} {ss : List Sl} {o : O} {Rt : Sl → O → Prop} {Xt : Addr → List (Str × D) → O → Prop}
theorem w_check_most (c : c_check_most K ss o Rt Xt) (hX : ∀ ρ o C' fs, Xt C' fs o → AX B W ρ o C' fs) : Wf (r_check_most K W) 3 B ss o Rt := by
  obtain ⟨w, m, n, rfl, h1, h2⟩ := c
  unfold Wf r_check_most
  walk_at "st"
  walk_at "e"
  refine ite_dec (fun h => ?_) fun h => ?_
  · refine s_raiseX ?_
    walk_at "e"
    exact ⟨[.str w], rfl, rfl, Nat.le_of_ble_eq_true rfl, hX _ _ _ _ (h1 h)⟩
  · walk_at "e"
    exact h2 h
theorem w_check_numbers (c : c_check_numbers K ss o Rt Xt) (hX : ∀ ρ o C' fs, Xt C' fs o → AX B W ρ o C' fs) : Wf (r_check_numbers K W) 3 B ss o Rt := by
  obtain ⟨ns, rfl, h1, h2⟩ := c
  unfold Wf r_check_numbers
  walk_at "st"
  refine s_for ?_
  walk_at "e"
  refine ⟨fun i ρ' o' => o' = o ∧ (∃ u, ρ' = [some (.da (.lst (ns.map D.int))), some (.da (.int 1000000000)), u]) ∧ ((ns.take i).any fun i => farN (some i)) = false, ⟨rfl, ⟨_, rfl⟩, rfl⟩, ?_, ?_⟩
  · rintro i d ρ' o' hd ⟨rfl, ⟨u, rfl⟩, hf⟩
    rw [List.getElem?_map] at hd
    obtain ⟨m, hm, rfl⟩ := Option.map_eq_some_iff.mp hd
    have bad : farN (some m) = true → (ns.any fun i => farN (some i)) = true := fun q => List.any_eq_true.mpr ⟨m, List.mem_of_getElem? hm, q⟩
    walk_at "e"
    refine ite_dec (fun h => ?_) fun h => ?_
    · walk_at "e"
      refine s_raiseX ?_
      walk_at "e"
      exact ⟨[.str "numbers"], rfl, rfl, by decide, hX _ _ _ _ (h1 (bad (by simp [farN, h])))⟩
    · walk_at "e"
      refine ite_dec (fun h' => ?_) fun h' => ?_
      · refine s_raiseX ?_
        walk_at "e"
        exact ⟨[.str "numbers"], rfl, rfl, by decide, hX _ _ _ _ (h1 (bad (by simp [farN, h'])))⟩
      · walk_at "e"
        refine ⟨rfl, ⟨_, rfl⟩, ?_⟩
        rw [List.take_add_one, hm, List.any_append, hf]
        simp [farN]
        omega
  · rintro ρ' o' ⟨rfl, _, hf⟩
    rw [List.length_map, List.take_length] at hf
    exact h2 hf
theorem sgnF {c : Nat} : decide (c ∈ (("abcdefghijklmnopqrstuvwxyz" : Str)).cps.toList) = inF c := by
  have e : (("abcdefghijklmnopqrstuvwxyz" : Str)).cps.toList = List.range' 97 26 := by decide +kernel
  rw [e]
  unfold inF
  congr 1
  simp only [List.mem_range', eq_iff_iff]
  constructor
  · rintro ⟨i, h, rfl⟩; omega
  · intro h; exact ⟨c - 97, by omega, by omega⟩
theorem sgnR {c : Nat} : decide (c ∈ (("abcdefghijklmnopqrstuvwxyz0123456789." : Str)).cps.toList) = inR c := by
  have e : (("abcdefghijklmnopqrstuvwxyz0123456789." : Str)).cps.toList = List.range' 97 26 ++ (List.range' 48 10 ++ [46]) := by decide +kernel
  rw [e]
  unfold inR
  congr 1
  simp only [List.mem_append, List.mem_range', eq_iff_iff, List.mem_singleton]
  constructor
  · rintro (⟨i, h, rfl⟩ | ⟨i, h, rfl⟩ | rfl) <;> omega
  · rintro (h | h | h)
    · exact .inl ⟨c - 97, by omega, by omega⟩
    · exact .inr (.inl ⟨c - 48, by omega, by omega⟩)
    · exact .inr (.inr h)
theorem notKw {w : Str} : ((D.pyL [.str "if", .str "unless"]).any fun z => PyData.eqv z (D.py (.str w))) = (decide (w = ("if" : Str)) || decide (w = ("unless" : Str))) := by
  show (PyData.eqv (.str "if") (.str w) || (PyData.eqv (.str "unless") (.str w) || false)) = _
  rw [eqv_str, eqv_str, Bool.or_false]
  congr 1 <;> (congr 1; exact propext eq_comm)
theorem w_is_word (c : c_is_word K ss o Rt Xt) : Wf (r_is_word K W) 2 B ss o Rt := by
  obtain ⟨w, rfl, hl, h⟩ := c
  unfold Wf r_is_word
  walk_at "st"
  walk_at "e"
  refine n_lenS hl ?_
  walk_at "e"
  have lw : w.cps.toList.length = w.length := by simp [Str.length]
  refine ite_dec (fun h1 => ?_) fun h1 => ?_
  · walk_at "e"
    have : isW w = false := by unfold isW; rw [decide_eq_false (by omega)]; rfl
    rw [this] at h
    exact h
  walk_at "e"
  refine n_lenS hl ?_
  walk_at "e"
  refine ite_dec (fun h2 => ?_) fun h2 => ?_
  · walk_at "e"
    have : isW w = false := by unfold isW; rw [decide_eq_false (by omega)]; rfl
    rw [this] at h
    exact h
  walk_at "e"
  obtain ⟨c, cs, hc⟩ : ∃ c cs, w.cps.toList = c :: cs := by
    cases e : w.cps.toList with
    | nil => rw [e] at lw; simp at lw; omega
    | cons c cs => exact ⟨c, cs, rfl⟩
  refine o_ixS hl (c := c) (by rw [hc]; simp [atI, ixN]) ?_
  walk_at "e"
  refine o_notInC ?_
  rw [sgnF]
  have hw : isW w = (inF c && (!(decide (w = ("if" : Str)) || decide (w = ("unless" : Str))) && w.cps.toList.all inR)) := by
    unfold isW
    rw [decide_eq_true (by omega), hc]
    rfl
  rw [hw] at h
  walk_at "e"
  cases hf : inF c with
  | false =>
    rw [hf] at h
    walk_at "e"
    exact h
  | true =>
  rw [hf] at h
  walk_at "e"
  refine o_inL rfl rfl (by simp [D.py, PyData.depth]) ?_
  rw [notKw]
  walk_at "e"
  cases hk : (decide (w = ("if" : Str)) || decide (w = ("unless" : Str))) with
  | true =>
    rw [hk] at h
    walk_at "e"
    exact h
  | false =>
  rw [hk] at h
  walk_at "e"
  refine s_forS ?_
  walk_at "e"
  refine ⟨fun i ρ' o' => o' = o ∧ (∃ u, ρ' = [some (.da (.str w)), u]) ∧ (w.cps.toList.take i).all inR = true, ⟨rfl, ⟨_, rfl⟩, rfl⟩, ?_, ?_⟩
  · rintro i d ρ' o' hd ⟨rfl, ⟨u, rfl⟩, hf⟩
    walk_at "e"
    refine o_notInC ?_
    rw [sgnR]
    walk_at "e"
    cases hi : inR d with
    | false =>
      walk_at "e"
      have : w.cps.toList.all inR = false := List.all_eq_false.mpr ⟨d, List.mem_of_getElem? hd, by rw [hi]; decide⟩
      rw [this] at h
      exact h
    | true =>
      walk_at "e"
      refine ⟨rfl, ⟨_, rfl⟩, ?_⟩
      rw [List.take_add_one, hd, List.all_append, hf]
      simp [hi]
  · rintro ρ' o' ⟨rfl, ⟨u, rfl⟩, hf⟩
    rw [← lw, List.take_length] at hf
    rw [hf] at h
    walk_at "e"
    exact h
theorem log_small {n : Nat} (h : n < 2 ^ 64) : n.log2 < 1920 := by
  by_cases h0 : n = 0
  · subst h0; decide
  · exact (Nat.log2_lt h0).mpr (Nat.lt_of_lt_of_le h (Nat.pow_le_pow_right (by decide) (by decide)))
theorem slen_app (x y : Str) : (x ++ y).length = x.length + y.length := by
  show (x.cps ++ y.cps).size = _
  rw [Array.size_append]
  rfl
theorem numLenN : ∀ n : Nat, n < 1001 → ((toString (n : Int) : String) : Str).length ≤ 4 := by decide +kernel
theorem numLen {t : Int} (h0 : 0 ≤ t) (h1 : t ≤ 1000) : ((toString t : String) : Str).length ≤ 4 := by
  obtain ⟨n, rfl⟩ := Int.eq_ofNat_of_zero_le h0
  exact numLenN n (by omega)
theorem atLen {n : Str} {t : Int} (h0 : 0 ≤ t) (h1 : t ≤ 1000) : (atM n t).length ≤ n.length + 5 := by
  unfold atM
  rw [slen_app, slen_app]
  have := numLen h0 h1
  have e : ((("." : String) : Str)).length = 1 := by decide +kernel
  omega
theorem sizeBig {n : Nat} (h : n ≤ 1000000) : n ≤ sizeLine := by
  rw [sizeLine_eq]
  omega
theorem w_at_moment (c : c_at_moment K ss o Rt Xt) : Wf (r_at_moment K W) 2 B ss o Rt := by
  obtain ⟨n, t, rfl, hl, h0, h1, h⟩ := c
  unfold Wf r_at_moment
  walk_at "st"
  walk_at "e"
  have e : ((("." : String) : Str)).length = 1 := by decide +kernel
  refine o_addS (sizeBig (by omega)) ?_
  walk_at "e"
  refine n_str (log_small (by omega)) ?_
  have := numLen h0 h1
  refine o_addS (sizeBig (by rw [slen_app]; omega)) ?_
  exact h
theorem w_below_zero (c : c_below_zero K ss o Rt Xt) : Wf (r_below_zero K W) 1 B ss o Rt := by
  obtain ⟨n, rfl, h⟩ := c
  unfold Wf r_below_zero
  walk_at "st"
  cases n with
  | none =>
    walk_at "e"
    refine o_isNot (fun w z => by cases z) ?_
    exact ⟨_, rfl, h⟩
  | some i =>
    walk_at "e"
    refine o_isNot (fun w z => by cases z) ?_
    refine ⟨_, rfl, ite_tt ?_⟩
    walk_at "e"
    exact o_lt (i := i) h
theorem w_crossed (c : c_crossed K ss o Rt Xt) : Wf (r_crossed K W) 2 B ss o Rt := by
  obtain ⟨a, b, rfl, h⟩ := c
  unfold Wf r_crossed
  walk_at "st"
  walk_at "e"
  cases a with
  | none =>
    refine o_isNot (fun w z => by cases z) ?_
    exact ⟨_, rfl, ite_ff (by exact h)⟩
  | some i =>
    refine o_isNot (fun w z => by cases z) ?_
    refine ⟨_, rfl, ite_tt ?_⟩
    walk_at "e"
    cases b with
    | none =>
      refine o_isNot (fun w z => by cases z) ?_
      exact ⟨_, rfl, ite_ff (by exact h)⟩
    | some j =>
      refine o_isNot (fun w z => by cases z) ?_
      refine ⟨_, rfl, ite_tt ?_⟩
      walk_at "e"
      exact o_gt (i := i) (j := j) h
theorem On.mono {K : PySem.W.Frag} {r : Oc} {o : O} {p p' : Prop} {X X' : Addr → List (Str × D) → O → Prop} (h : r.On K o p X) (hp : r = .ok → p → p') (hx : ∀ C fs, X C fs o → X' C fs o) : r.On K o p' X' := by
  cases r with
  | ok => exact hp rfl h
  | bad s => exact hx _ _ h
  | many s => exact hx _ _ h
theorem chk_ok {names : List Str} {first last : Int} {ns : List (Option Int)} {wrong : Bool} (h : chk names first last ns wrong = .ok) : last ≤ 24 ∧ ns.any farN = false ∧ 0 ≤ first ∧ first ≤ last ∧ (names.any fun n => !isW n || !isW (atM n last)) = false ∧ wrong = false := by
  unfold chk at h
  split at h
  · cases h
  · split at h
    · cases h
    · split at h
      · cases h
      · split at h
        · cases h
        · split at h
          · cases h
          · rename_i h1 h2 h3 h4 h5
            refine ⟨by omega, by simpa using h2, by omega, by omega, by simpa using h4, by simpa using h5⟩
theorem w_check_pattern (c : c_check_pattern K ss o Rt Xt) (hX : ∀ ρ o C' fs, Xt C' fs o → AX B W ρ o C' fs) : Wf (r_check_pattern K W) 7 B ss o Rt := by
  obtain ⟨names, first, last, ns, wrong, rfl, hn, hm, h⟩ := c
  unfold Wf r_check_pattern
  walk_at "st"
  walk_at "e"
  refine ⟨"moments", last, 24, rfl, fun h1 => ?_, fun h1 => ?_⟩
  · unfold chk at h
    rw [if_pos h1] at h
    exact hX _ _ _ _ h
  unfold chk at h
  rw [if_neg h1] at h
  walk_at "e"
  refine e_lc ?_
  walk_at "e"
  refine ⟨fun i acc o' => o' = o ∧ acc.length ≤ i ∧ i ≤ ns.length ∧ ∃ js : List Int, acc = js.map D.int ∧ (ns.take i).any farN = js.any fun j => farN (some j), ⟨rfl, by simp, by simp, [], rfl, rfl⟩, fun i acc o' q => by omega, ?_, ?_⟩
  · rintro i d acc o' hd ⟨rfl, hl, hi, js, rfl, e⟩
    rw [List.getElem?_map] at hd
    obtain ⟨m, hm', rfl⟩ := Option.map_eq_some_iff.mp hd
    have hi' := (List.getElem?_eq_some_iff.mp hm').1
    refine gw_name (by simp) ?_
    walk_at "e"
    refine o_isNot (fun w z => by cases m <;> cases z) ?_
    refine ⟨_, rfl, ?_⟩
    cases m with
    | none =>
      refine ite_ff ?_
      refine ⟨rfl, by omega, by omega, js, rfl, ?_⟩
      rw [List.take_add_one, hm', List.any_append, e]
      simp [farN]
    | some m =>
      refine ite_tt ?_
      walk_at "e"
      refine ⟨rfl, by simp at hl ⊢; omega, by omega, js ++ [m], by simp [optD], ?_⟩
      rw [List.take_add_one, hm', List.any_append, e, List.any_append]
      simp [farN]
  rintro acc o' ⟨rfl, _, _, js, rfl, e⟩
  rw [List.length_map, List.take_length] at e
  walk_at "e"
  refine ⟨js, rfl, fun h2 => ?_, fun h2 => ?_⟩
  · rw [if_pos (e.trans h2)] at h
    exact hX _ _ _ _ h
  rw [if_neg (by rw [e, h2]; decide)] at h
  have bad : first < 0 ∨ last < first → Xt (ga K "BadPattern") [("what", .str "moments")] o' := fun q => by
    rw [if_pos q] at h
    exact h
  walk_at "e"
  refine ite_dec (fun h3 => ?_) fun h3 => ?_
  · walk_at "e"
    refine s_raiseX ?_
    walk_at "e"
    exact ⟨[.str "moments"], rfl, rfl, by decide, hX _ _ _ _ (bad (.inl h3))⟩
  walk_at "e"
  refine ite_dec (fun h4 => ?_) fun h4 => ?_
  · refine s_raiseX ?_
    walk_at "e"
    exact ⟨[.str "moments"], rfl, rfl, by decide, hX _ _ _ _ (bad (.inr h4))⟩
  rw [if_neg (by omega)] at h
  walk_at "e"
  refine s_for ?_
  walk_at "e"
  refine ⟨fun i ρ' o'' => o'' = o' ∧ (∃ u w, ρ' = [some (.da (.lst (txs names))), some (.da (.int first)), some (.da (.int last)), some (.da (.lst (ns.map optD))), some (.da (.bl wrong)), u, w]) ∧ ((names.take i).any fun n => !isW n || !isW (atM n last)) = false, ⟨rfl, ⟨_, _, rfl⟩, rfl⟩, ?_, ?_⟩
  · rintro i d ρ' o'' hd ⟨rfl, ⟨u, w, rfl⟩, hf⟩
    unfold txs at hd
    rw [List.getElem?_map] at hd
    obtain ⟨m, hm', rfl⟩ := Option.map_eq_some_iff.mp hd
    have ml := hn m (List.mem_of_getElem? hm')
    have bad2 : (!isW m || !isW (atM m last)) = true → Xt (ga K "BadPattern") [("what", .str "name")] o'' := fun q => by
      rw [if_pos (List.any_eq_true.mpr ⟨m, List.mem_of_getElem? hm', q⟩)] at h
      exact h
    walk_at "e"
    refine ⟨m, rfl, sizeBig (by omega), ?_⟩
    walk_at "e"
    cases hw : isW m with
    | false =>
      walk_at "e"
      refine s_raiseX ?_
      walk_at "e"
      exact ⟨[.str "name"], rfl, rfl, by decide, hX _ _ _ _ (bad2 (by rw [hw]; rfl))⟩
    | true =>
      walk_at "e"
      have al := atLen (n := m) (t := last) (by omega) (by omega)
      refine ⟨atM m last, rfl, sizeBig (by omega), ?_⟩
      walk_at "e"
      cases hw2 : isW (atM m last) with
      | false =>
        walk_at "e"
        refine s_raiseX ?_
        walk_at "e"
        exact ⟨[.str "name"], rfl, rfl, by decide, hX _ _ _ _ (bad2 (by rw [hw, hw2]; rfl))⟩
      | true =>
        walk_at "e"
        refine ⟨rfl, ⟨_, _, rfl⟩, ?_⟩
        rw [List.take_add_one, hm', List.any_append, hf]
        simp [hw, hw2]
  · rintro ρ' o'' ⟨rfl, ⟨u, w, rfl⟩, hf⟩
    unfold txs at hf
    rw [List.length_map, List.take_length] at hf
    rw [if_neg (by rw [hf]; decide)] at h
    walk_at "e"
    cases wrong with
    | false =>
      walk_at "e"
      exact h
    | true =>
      walk_at "e"
      refine s_raiseX ?_
      walk_at "e"
      exact ⟨[.str "number"], rfl, rfl, by decide, hX _ _ _ _ h⟩
end K03
end AB

set_option Elab.async false
set_option linter.all false
set_option maxRecDepth 100000
set_option maxHeartbeats 4000000
set_option autoImplicit false
namespace AB
open PySem L2 PySem.Spec PyProof.Rows He
namespace K03
local macro_rules | `(tactic| walk_at "e") => `(tactic| repeat' (first
  | (with_reducible refine s_seq ?_) | (with_reducible refine s_if ?_) | (with_reducible refine s_drop ?_) | (with_reducible refine s_ret ?_) | (with_reducible refine s_next ?_) | (with_reducible refine s_asg ?_)
  | (with_reducible refine g_name ?_)
  | (with_reducible refine t_test ?_) | (with_reducible refine t_B ?_) | (with_reducible refine t_or ?_) | (with_reducible refine t_and ?_) | (with_reducible refine t_not ?_)
  | ((with_reducible apply e_var); rfl) | (with_reducible refine e_int ?_) | (with_reducible refine e_str ?_) | (with_reducible refine e_bl ?_) | (with_reducible refine e_non ?_)
  | (with_reducible refine e_raw ?_) | (with_reducible refine ite_tt ?_) | (with_reducible refine ite_ff ?_) | (with_reducible refine ite_ntt ?_) | (with_reducible refine ite_nff ?_) | (with_reducible refine n_isiS ?_) | (with_reducible refine n_isiL ?_) | (with_reducible refine n_isiT ?_)
  | (with_reducible refine e_op ?_) | (with_reducible refine e_un ?_) | (with_reducible refine e_cb ?_) | (with_reducible refine e_callA ?_) | (with_reducible refine e_andV ?_) | (with_reducible refine e_if ?_)
  | (with_reducible refine a_cons ?_) | (with_reducible refine a_nil ?_)
  | (with_reducible refine o_gt ?_) | (with_reducible refine o_lt ?_) | (with_reducible refine o_le ?_) | (with_reducible refine o_ge ?_) | (with_reducible refine o_add ?_) | (with_reducible refine o_sub ?_) | (with_reducible refine o_neg ?_)
  | (with_reducible refine e_tup ?_) | (with_reducible refine e_lst ?_) | (with_reducible refine exd0 ?_) | (with_reducible refine exd1 ?_) | (with_reducible refine exd2 ?_) | (with_reducible refine exd3 ?_) | (with_reducible refine exd4 ?_) | (with_reducible refine exd5 ?_) | (with_reducible refine exd6 ?_)
  | (with_reducible refine o_isNotI ?_) | (with_reducible refine o_isNotN ?_) | (with_reducible refine o_isNotS ?_) | (with_reducible refine o_isI ?_) | (with_reducible refine o_isN ?_) | (with_reducible refine o_isS ?_) | (with_reducible refine o_isT ?_)
  | (with_reducible refine t_yes ?_) | (with_reducible refine gw_name (by decide) ?_)
  | (with_reducible refine s_par ?_) | (with_reducible refine ex2 ?_) | (with_reducible refine o_eqI ?_) | (with_reducible refine o_neI ?_) | (with_reducible refine o_ixL (by assumption) (by assumption) ?_)
  | (with_reducible refine e_sl ?_) | (with_reducible refine l_none ?_) | (with_reducible refine l_some ?_)
  | (with_reducible refine n_list (by assumption) ?_)
  | (with_reducible refine cat_in (by first | assumption | omega) (by omega) (by omega) ?_)
  | (with_reducible refine ite_dec (fun h => absurd h (by decide)) (fun _ => ?_)) | (with_reducible refine ite_dec (fun _ => ?_) (fun h => absurd (by decide) h))
  | (with_reducible refine Exists.intro _ (And.intro rfl ?_))))
local macro_rules | `(tactic| walk_at "st") => `(tactic| simp only [List.map_cons, List.map_nil, List.length_cons, List.length_nil, Nat.reduceAdd, Nat.reduceSub, List.replicate, List.cons_append, List.nil_append])
variable {K : PySem.W.Frag} {B : Base} {W : WX} {ss : List Sl} {o : O} {Rt : Sl → O → Prop} {Xt : Addr → List (Str × D) → O → Prop}
theorem set_new {o : O} {u v : OO} : (o ++ [u]).set o.length v = o ++ [v] := by
  rw [List.set_append_right _ _ (Nat.le_refl _), Nat.sub_self]
  rfl
theorem e_app {ρ : R} {t : TA} {r jo : Nat} {acc : List D} {P : Sl → O → Prop} (hr : ρ[r]? = some (some (.ow jo))) (ho : o[jo]? = some (.lst (acc.map Sl.da))) (hl : acc.length ≤ 1000000)
    (h : AA B t ρ o fun xs o2 => ∃ d, xs = [.da d] ∧ o2 = o ∧ P (.da .non) (o.set jo (.lst ((acc ++ [d]).map Sl.da)))) : AE B (tBM K "list" rAppend (tVar r) t) ρ o P := by
  refine e_bm ?_
  refine e_var hr ?_
  refine ⟨⟨_, ho⟩, ?_⟩
  intro F H θ σ k Q q
  refine h F H θ σ k Q fun vs xs F' H' θ' o' t' k' r' p => ?_
  obtain ⟨d, rfl, rfl, p⟩ := p
  refine q vs _ F' H' θ' _ t' k' r' (m_append ho (Nat.lt_of_le_of_lt (by rw [List.length_map]; exact hl) (by rw [sizeLine_eq]; decide)) ?_)
  rw [List.map_append] at p
  exact p
theorem s_rowsL {D0 : AD} {ρ : R} {ta : TA} {r m : Nat} {tb : TS} {first last : Int} {α : Type} (f : Int → List α) (g : α → D) (Inv : R → Prop) (hta : ∀ ρ' o' (P : List Sl → O → Prop), Inv ρ' → P [.da (.int first), .da (.int (last + 1))] o' → AA B ta ρ' o' P)
    (hb : 0 ≤ first ∧ first ≤ last ∧ last ≤ 24) (h0 : Inv (ρ.set r (some (.ow o.length)))) (hr : ∀ ρ', Inv ρ' → ρ'[r]? = some (some (.ow o.length))) (hB : B.θ.length ≤ o.length)
    (step : ∀ (k : Nat) ρ', k < many first last → Inv ρ' → WS B tb { nx := fun ρ2 o2 => Inv ρ2 ∧ o2 = o ++ [.lst (((rowsU f first (k + 1)).map g).map Sl.da)], rt := D0.rt, ct := fun ρ2 o2 => Inv ρ2 ∧ o2 = o ++ [.lst (((rowsU f first (k + 1)).map g).map Sl.da)], bk := fun _ _ => False } (ρ'.set m (some (.da (.int (first + k))))) (o ++ [.lst (((rowsU f first k).map g).map Sl.da)]))
    (fin : D0.rt (.da (.lst ((rowsU f first (many first last)).map g))) (o ++ [.gone])) : WS B (tSeq (tAsg (tLst tNil) (gName r)) (tSeq (tFor (iRng2 ta) (gName m) tb) (tRet (tVar r)))) D0 ρ o := by
  refine s_seq (s_asg (e_lstO ?_))
  walk_at "e"
  refine ⟨Nat.zero_le _, g_name ?_⟩
  refine s_seq (s_range2 (hta _ _ _ h0 ?_))
  refine ⟨first, last + 1, rfl, by omega, fun k ρ' o' => Inv ρ' ∧ o' = o ++ [.lst (((rowsU f first k).map g).map Sl.da)], ⟨h0, rfl⟩, ?_, ?_⟩
  · rintro k ρ' o' hk ⟨hi, rfl⟩
    refine g_name ((step k ρ' hk hi).mono (fun _ _ x => x) (fun _ _ x => x) (fun _ _ x => x.elim) (fun _ _ x => x))
  · rintro ρ' o' ⟨hi, rfl⟩
    refine s_ret (e_frz (e_var (hr _ hi) ?_))
    refine ⟨o.length, _, _, rfl, hB, get_new, .lst _, ?_⟩
    rw [set_new]
    exact fin
theorem row_step {α : Type} {f : Int → List α} {g : α → D} {first : Int} {k : Nat} {d : D} (e : (f (first + (k : Int))).map g = [d]) : (o ++ [OO.lst (((rowsU f first k).map g).map Sl.da)]).set o.length (.lst (((rowsU f first k).map g ++ [d]).map Sl.da)) = o ++ [.lst (((rowsU f first (k + 1)).map g).map Sl.da)] := by
  rw [set_new, rowsU_succ, List.map_append (f := g), e]
theorem row_none {α : Type} {f : Int → List α} {g : α → D} {first : Int} {k : Nat} (e : f (first + (k : Int)) = []) : o ++ [OO.lst (((rowsU f first k).map g).map Sl.da)] = o ++ [.lst (((rowsU f first (k + 1)).map g).map Sl.da)] := by
  rw [rowsU_succ, e, List.append_nil]
theorem few {α : Type} {f : Int → List α} {first last : Int} {k : Nat} {g : α → D} (h : ∀ t, (f t).length ≤ 2) (hk : k < many first last) (hb : 0 ≤ first ∧ last ≤ 24) : ((rowsU f first k).map g).length ≤ 1000000 := by
  rw [List.length_map]
  have := rowsU_len (first := first) h k
  unfold many at hk
  omega
theorem w_after_rows (hB : B.θ.length = o.length) (c : c_after_rows K ss o Rt Xt) (hX : ∀ ρ o C' fs, Xt C' fs o → AX B W ρ o C' fs) : Wf (r_after_rows K W) 10 B ss o Rt := by
  obtain ⟨a, b, first, last, mn, x, y, yes, no, rfl, hx, hy, la, lb, h⟩ := c
  unfold Wf r_after_rows
  walk_at "st"
  walk_at "e"
  refine ⟨[a, b], first, last, [some mn], decide (mn < 0), rfl, by simp [la, lb], by simp, ?_⟩
  refine On.mono h (fun e p => ?_) fun C fs q => hX _ _ _ _ q
  have hc := chk_ok e
  have hmn : 0 ≤ mn := by have := hc.2.2.2.2.2; simp at this; exact this
  refine s_rowsL (fAfter a b first mn) (side yes no) (fun ρ' => ∃ u w, ρ' = [some (.da (.str a)), some (.da (.str b)), some (.da (.int first)), some (.da (.int last)), some (.da (.int mn)), some x, some y, some (.ow o.length), u, w]) ?_ ⟨hc.2.2.1, hc.2.2.2.1, hc.1⟩ ⟨_, _, rfl⟩ ?_ (by omega) ?_ (p _ ⟨_, rfl⟩)
  · rintro ρ' o' P ⟨u, w, rfl⟩ q
    walk_at "e"
    exact q
  · rintro ρ' ⟨u, w, rfl⟩
    rfl
  · rintro k ρ' hk ⟨u, w, rfl⟩
    have hx' := hx.fp ⟨[.lst (((rowsU (fAfter a b first mn) first k).map (side yes no)).map Sl.da)], rfl⟩
    have hy' := hy.fp ⟨[.lst (((rowsU (fAfter a b first mn) first k).map (side yes no)).map Sl.da)], rfl⟩
    have hk' : (k : Int) ≤ last - first := by unfold many at hk; omega
    have key : ∀ c : Option Str, (if first + (k : Int) - mn < first then none else some (atM b (first + k - mn))) = c → WS B (tDrop (tBM K "list" rAppend (tVar 7) (tCons (tTup (tCons (tCallS (SpC (c_at_moment K)) (WE W) (tCons (tVar 0) (tCons (tVar 8) tNil))) (tCons (tVar 9) (tCons (tC (.int 0)) (tCons (tCB (rListA K) (tCons (tVar 5) tNil)) (tCons (tCB (rListA K) (tCons (tVar 6) tNil)) tNil)))))) tNil)))
      { nx := fun ρ2 o2 => (∃ u w, ρ2 = [some (.da (.str a)), some (.da (.str b)), some (.da (.int first)), some (.da (.int last)), some (.da (.int mn)), some x, some y, some (.ow o.length), u, w]) ∧ o2 = o ++ [.lst (((rowsU (fAfter a b first mn) first (k + 1)).map (side yes no)).map Sl.da)], rt := Rt }
      [some (.da (.str a)), some (.da (.str b)), some (.da (.int first)), some (.da (.int last)), some (.da (.int mn)), some x, some y, some (.ow o.length), some (.da (.int (first + k))), some (.da (optS c))] (o ++ [.lst (((rowsU (fAfter a b first mn) first k).map (side yes no)).map Sl.da)]) := fun c hc' => by
      refine s_drop (e_app (acc := (rowsU (fAfter a b first mn) first k).map (side yes no)) rfl get_new (few (fun t => by simp [fAfter]) hk ⟨hc.2.2.1, hc.1⟩) ?_)
      walk_at "e"
      refine ⟨rfl, ⟨_, _, rfl⟩, ?_⟩
      refine row_step ?_
      unfold fAfter
      rw [hc']
      rfl
    refine s_seq (s_asg (e_if ?_))
    walk_at "e"
    refine ite_dec (fun h1 => ?_) fun h1 => ?_
    · refine e_non (g_name ?_)
      refine (key none (if_pos h1)).mono (fun _ _ q => q) (fun _ _ q => q) (fun _ _ q => q.elim) (fun _ _ q => q.elim)
    · refine e_callA ?_
      refine a_cons (e_var rfl ?_)
      refine a_cons (e_op (e_var rfl (e_var rfl (o_sub ?_))))
      refine a_nil (cat_in lb (by omega) (by omega) (g_name ?_))
      refine (key _ (if_neg h1)).mono (fun _ _ q => q) (fun _ _ q => q) (fun _ _ q => q.elim) (fun _ _ q => q.elim)
theorem w_within_rows (hB : B.θ.length = o.length) (c : c_within_rows K ss o Rt Xt) (hX : ∀ ρ o C' fs, Xt C' fs o → AX B W ρ o C' fs) : Wf (r_within_rows K W) 9 B ss o Rt := by
  obtain ⟨a, b, first, last, mn, x, y, yes, no, rfl, hx, hy, la, lb, h⟩ := c
  unfold Wf r_within_rows
  walk_at "st"
  walk_at "e"
  refine ⟨[a, b], first, last, [some mn], decide (mn < 0), rfl, by simp [la, lb], by simp, ?_⟩
  refine On.mono h (fun e p => ?_) fun C fs q => hX _ _ _ _ q
  have hc := chk_ok e
  have hmn : 0 ≤ mn := by have := hc.2.2.2.2.2; simp at this; exact this
  refine s_rowsL (fWithin a b last mn) (side yes no) (fun ρ' => ∃ w, ρ' = [some (.da (.str a)), some (.da (.str b)), some (.da (.int first)), some (.da (.int last)), some (.da (.int mn)), some x, some y, some (.ow o.length), w]) ?_ ⟨hc.2.2.1, hc.2.2.2.1, hc.1⟩ ⟨_, rfl⟩ ?_ (by omega) ?_ (p _ ⟨_, rfl⟩)
  · rintro ρ' o' P ⟨w, rfl⟩ q
    walk_at "e"
    exact q
  · rintro ρ' ⟨w, rfl⟩
    rfl
  · rintro k ρ' hk ⟨w, rfl⟩
    have hx' := hx.fp ⟨[.lst (((rowsU (fWithin a b last mn) first k).map (side yes no)).map Sl.da)], rfl⟩
    have hy' := hy.fp ⟨[.lst (((rowsU (fWithin a b last mn) first k).map (side yes no)).map Sl.da)], rfl⟩
    have hk' : (k : Int) ≤ last - first := by unfold many at hk; omega
    walk_at "e"
    refine ite_dec (fun h1 => ?_) fun h1 => ?_
    · refine s_drop (e_app (acc := (rowsU (fWithin a b last mn) first k).map (side yes no)) rfl get_new (few (fun t => by unfold fWithin; split <;> simp) hk ⟨hc.2.2.1, hc.1⟩) ?_)
      walk_at "e"
      refine ⟨rfl, ⟨_, rfl⟩, row_step ?_⟩
      unfold fWithin
      rw [if_pos h1]
      rfl
    · walk_at "e"
      refine ⟨⟨_, rfl⟩, row_none ?_⟩
      unfold fWithin
      rw [if_neg h1]
theorem w_turn_rows (hB : B.θ.length = o.length) (c : c_turn_rows K ss o Rt Xt) (hX : ∀ ρ o C' fs, Xt C' fs o → AX B W ρ o C' fs) : Wf (r_turn_rows K W) 9 B ss o Rt := by
  obtain ⟨a, b, first, last, mn, x, y, yes, no, rfl, hx, hy, la, lb, h⟩ := c
  unfold Wf r_turn_rows
  walk_at "st"
  walk_at "e"
  refine ⟨[a, b], first, last, [some mn], decide (mn < 0), rfl, by simp [la, lb], by simp, ?_⟩
  refine On.mono h (fun e p => ?_) fun C fs q => hX _ _ _ _ q
  have hc := chk_ok e
  refine s_rowsL (fTurn a b mn) (side yes no) (fun ρ' => ∃ w, ρ' = [some (.da (.str a)), some (.da (.str b)), some (.da (.int first)), some (.da (.int last)), some (.da (.int mn)), some x, some y, some (.ow o.length), w]) ?_ ⟨hc.2.2.1, hc.2.2.2.1, hc.1⟩ ⟨_, rfl⟩ ?_ (by omega) ?_ (p _ ⟨_, rfl⟩)
  · rintro ρ' o' P ⟨w, rfl⟩ q
    walk_at "e"
    exact q
  · rintro ρ' ⟨w, rfl⟩
    rfl
  · rintro k ρ' hk ⟨w, rfl⟩
    have hx' := hx.fp ⟨[.lst (((rowsU (fTurn a b mn) first k).map (side yes no)).map Sl.da)], rfl⟩
    have hy' := hy.fp ⟨[.lst (((rowsU (fTurn a b mn) first k).map (side yes no)).map Sl.da)], rfl⟩
    have hk' : (k : Int) ≤ last - first := by unfold many at hk; omega
    refine s_drop (e_app (acc := (rowsU (fTurn a b mn) first k).map (side yes no)) rfl get_new (few (fun t => by simp [fTurn]) hk ⟨hc.2.2.1, hc.1⟩) ?_)
    walk_at "e"
    exact ⟨rfl, ⟨_, rfl⟩, row_step rfl⟩
theorem w_loss_rows (hB : B.θ.length = o.length) (c : c_loss_rows K ss o Rt Xt) (hX : ∀ ρ o C' fs, Xt C' fs o → AX B W ρ o C' fs) : Wf (r_loss_rows K W) 9 B ss o Rt := by
  obtain ⟨a, b, first, last, low, mn, x, yes, rfl, hx, la, lb, h⟩ := c
  unfold Wf r_loss_rows
  walk_at "st"
  walk_at "e"
  refine ⟨[a, b], first, last, [some low, some mn], decide (mn < 0), rfl, by simp [la, lb], by simp, ?_⟩
  refine On.mono h (fun e p => ?_) fun C fs q => hX _ _ _ _ q
  have hc := chk_ok e
  refine s_rowsL (fLoss a b low mn) (side yes []) (fun ρ' => ∃ w, ρ' = [some (.da (.str a)), some (.da (.str b)), some (.da (.int first)), some (.da (.int last)), some (.da (.int low)), some (.da (.int mn)), some x, some (.ow o.length), w]) ?_ ⟨hc.2.2.1, hc.2.2.2.1, hc.1⟩ ⟨_, rfl⟩ ?_ (by omega) ?_ (p _ ⟨_, rfl⟩)
  · rintro ρ' o' P ⟨w, rfl⟩ q
    walk_at "e"
    exact q
  · rintro ρ' ⟨w, rfl⟩
    rfl
  · rintro k ρ' hk ⟨w, rfl⟩
    have hx' := hx.fp ⟨[.lst (((rowsU (fLoss a b low mn) first k).map (side yes [])).map Sl.da)], rfl⟩
    have hk' : (k : Int) ≤ last - first := by unfold many at hk; omega
    refine s_drop (e_app (acc := (rowsU (fLoss a b low mn) first k).map (side yes [])) rfl get_new (few (fun t => by simp [fLoss]) hk ⟨hc.2.2.1, hc.1⟩) ?_)
    walk_at "e"
    exact ⟨rfl, ⟨_, rfl⟩, row_step rfl⟩
theorem w_due_rows (c : c_due_rows K ss o Rt Xt) (hX : ∀ ρ o C' fs, Xt C' fs o → AX B W ρ o C' fs) : Wf (r_due_rows K W) 5 B ss o Rt := by
  obtain ⟨a, t, mn, x, y, yes, no, rfl, hx, hy, la, h⟩ := c
  unfold Wf r_due_rows
  walk_at "st"
  walk_at "e"
  refine ⟨[a], t, t, [some mn], decide (mn < 0), rfl, by simp [la], by simp, ?_⟩
  refine On.mono h (fun e p => ?_) fun C fs q => hX _ _ _ _ q
  have hc := chk_ok e
  have h0 := hc.2.2.1
  have h1 := hc.1
  walk_at "e"
  exact p _ (Fp.refl _)
end K03
end AB

set_option Elab.async false
set_option linter.all false
set_option maxRecDepth 100000
set_option maxHeartbeats 4000000
set_option autoImplicit false
namespace AB
open PySem L2 PySem.Spec PyProof.Rows He
namespace K03
local macro_rules | `(tactic| walk_at "e") => `(tactic| repeat' (first
  | (with_reducible refine s_seq ?_) | (with_reducible refine s_if ?_) | (with_reducible refine s_drop ?_) | (with_reducible refine s_ret ?_) | (with_reducible refine s_next ?_) | (with_reducible refine s_asg ?_)
  | (with_reducible refine g_name ?_)
  | (with_reducible refine t_test ?_) | (with_reducible refine t_B ?_) | (with_reducible refine t_or ?_) | (with_reducible refine t_and ?_) | (with_reducible refine t_not ?_)
  | ((with_reducible apply e_var); rfl) | (with_reducible refine e_int ?_) | (with_reducible refine e_str ?_) | (with_reducible refine e_bl ?_) | (with_reducible refine e_non ?_)
  | (with_reducible refine e_raw ?_) | (with_reducible refine ite_tt ?_) | (with_reducible refine ite_ff ?_) | (with_reducible refine ite_ntt ?_) | (with_reducible refine ite_nff ?_) | (with_reducible refine n_isiS ?_) | (with_reducible refine n_isiL ?_) | (with_reducible refine n_isiT ?_)
  | (with_reducible refine e_op ?_) | (with_reducible refine e_un ?_) | (with_reducible refine e_cb ?_) | (with_reducible refine e_callA ?_) | (with_reducible refine e_andV ?_) | (with_reducible refine e_if ?_)
  | (with_reducible refine a_cons ?_) | (with_reducible refine a_nil ?_)
  | (with_reducible refine o_gt ?_) | (with_reducible refine o_lt ?_) | (with_reducible refine o_le ?_) | (with_reducible refine o_ge ?_) | (with_reducible refine o_add ?_) | (with_reducible refine o_sub ?_) | (with_reducible refine o_neg ?_)
  | (with_reducible refine e_tup ?_) | (with_reducible refine e_lst ?_) | (with_reducible refine exd0 ?_) | (with_reducible refine exd1 ?_) | (with_reducible refine exd2 ?_) | (with_reducible refine exd3 ?_) | (with_reducible refine exd4 ?_) | (with_reducible refine exd5 ?_) | (with_reducible refine exd6 ?_)
  | (with_reducible refine o_isNotI ?_) | (with_reducible refine o_isNotN ?_) | (with_reducible refine o_isNotS ?_) | (with_reducible refine o_isI ?_) | (with_reducible refine o_isN ?_) | (with_reducible refine o_isS ?_) | (with_reducible refine o_isT ?_)
  | (with_reducible refine t_yes ?_) | (with_reducible refine gw_name (by decide) ?_)
  | (with_reducible refine s_par ?_) | (with_reducible refine ex2 ?_) | (with_reducible refine o_eqI ?_) | (with_reducible refine o_neI ?_) | (with_reducible refine o_ixL (by assumption) (by assumption) ?_)
  | (with_reducible refine e_sl ?_) | (with_reducible refine l_none ?_) | (with_reducible refine l_some ?_)
  | (with_reducible refine n_list (by assumption) ?_)
  | (with_reducible refine cat_in (by first | assumption | omega) (by omega) (by omega) ?_)
  | (with_reducible refine ite_dec (fun h => absurd h (by decide)) (fun _ => ?_)) | (with_reducible refine ite_dec (fun _ => ?_) (fun h => absurd (by decide) h))
  | (with_reducible refine Exists.intro _ (And.intro rfl ?_))))
local macro_rules | `(tactic| walk_at "st") => `(tactic| simp only [List.map_cons, List.map_nil, List.length_cons, List.length_nil, Nat.reduceAdd, Nat.reduceSub, List.replicate, List.cons_append, List.nil_append])
variable {K : PySem.W.Frag} {B : Base} {W : WX} {ss : List Sl} {o : O} {Rt : Sl → O → Prop} {Xt : Addr → List (Str × D) → O → Prop}
theorem opt_rep {n : Option Int} : ∀ w, Sl.da (optD n) ≠ .da (.raw w) := fun w z => by cases n <;> cases z
theorem e_wrong {ρ : R} {i j : Nat} {l h : Option Int} {P : Sl → O → Prop} (hi : ρ[i]? = some (some (.da (optD l)))) (hj : ρ[j]? = some (some (.da (optD h)))) (p : P (.da (.bl (belowZ h || crossd l h))) o) :
    AE B (tOrV (tCallS (SpC (c_below_zero K)) (WE W) (tCons (tVar j) tNil)) (tCallS (SpC (c_crossed K)) (WE W) (tCons (tVar i) (tCons (tVar j) tNil)))) ρ o P := by
  refine e_orV (e_callA (a_cons (e_var hj (a_nil ⟨h, rfl, _, rfl, ?_⟩))))
  cases q : belowZ h with
  | true =>
    rw [q] at p
    exact ite_tt p
  | false =>
    rw [q] at p
    exact ite_ff (e_callA (a_cons (e_var hi (a_cons (e_var hj (a_nil ⟨l, h, rfl, p⟩))))))
theorem w_stock_rows (hB : B.θ.length = o.length) (c : c_stock_rows K ss o Rt Xt) (hX : ∀ ρ o C' fs, Xt C' fs o → AX B W ρ o C' fs) : Wf (r_stock_rows K W) 10 B ss o Rt := by
  obtain ⟨a, b, first, last, low, high, x, y, yes, no, rfl, hx, hy, la, lb, h⟩ := c
  unfold Wf r_stock_rows
  walk_at "st"
  refine s_seq (s_drop (e_callA ?_))
  refine a_cons (e_lst ?_)
  walk_at "e"
  refine e_wrong (l := low) (h := high) rfl rfl ?_
  walk_at "e"
  refine ⟨[a, b], first, last, [low, high], belowZ high || crossd low high, rfl, by simp [la, lb], by simp, ?_⟩
  refine On.mono h (fun e p => ?_) fun C fs q => hX _ _ _ _ q
  have hc := chk_ok e
  refine s_rowsL (fStock a b low high) (side yes no) (fun ρ' => ∃ w, ρ' = [some (.da (.str a)), some (.da (.str b)), some (.da (.int first)), some (.da (.int last)), some (.da (optD low)), some (.da (optD high)), some x, some y, some (.ow o.length), w]) ?_ ⟨hc.2.2.1, hc.2.2.2.1, hc.1⟩ ⟨_, rfl⟩ ?_ (by omega) ?_ (p _ ⟨_, rfl⟩)
  · rintro ρ' o' P ⟨w, rfl⟩ q
    walk_at "e"
    exact q
  · rintro ρ' ⟨w, rfl⟩
    rfl
  · rintro k ρ' hk ⟨w, rfl⟩
    have hx' := hx.fp ⟨[.lst (((rowsU (fStock a b low high) first k).map (side yes no)).map Sl.da)], rfl⟩
    have hy' := hy.fp ⟨[.lst (((rowsU (fStock a b low high) first k).map (side yes no)).map Sl.da)], rfl⟩
    have hk' : (k : Int) ≤ last - first := by unfold many at hk; omega
    have fw := few (f := fStock a b low high) (g := side yes no) (fun t => by unfold fStock; cases low <;> cases high <;> simp) hk ⟨hc.2.2.1, hc.1⟩
    have fl : ((rowsU (fStock a b low high) first k).map (side yes no)).length ≤ 50 := by
      rw [List.length_map]
      have := rowsU_len (f := fStock a b low high) (first := first) (fun t => by unfold fStock; cases low <;> cases high <;> simp) k
      omega
    cases low with
    | none =>
      dsimp only [optD]
      walk_at "e"
      cases high with
      | none =>
        dsimp only [optD]
        walk_at "e"
        exact ⟨⟨_, rfl⟩, row_none rfl⟩
      | some j =>
        dsimp only [optD]
        walk_at "e"
        refine e_app (acc := (rowsU (fStock a b none (some j)) first k).map (side yes no)) rfl get_new fw ?_
        walk_at "e"
        exact ⟨rfl, ⟨_, rfl⟩, row_step rfl⟩
    | some i =>
      dsimp only [optD]
      walk_at "e"
      refine e_app (acc := (rowsU (fStock a b (some i) high) first k).map (side yes no)) rfl get_new fw ?_
      walk_at "e"
      refine ⟨rfl, ?_⟩
      rw [set_new]
      cases high with
      | none =>
        dsimp only [optD]
        walk_at "e"
        refine ⟨⟨_, rfl⟩, ?_⟩
        rw [← set_new (u := .lst (((rowsU (fStock a b (some i) none) first k).map (side yes no)).map Sl.da))]
        exact row_step rfl
      | some j =>
        dsimp only [optD]
        walk_at "e"
        have hx2 := hx.fp ⟨[.lst (((rowsU (fStock a b (some i) (some j)) first k).map (side yes no) ++ [D.tup [.str (atM b (first + k)), .str (atM a (first + k)), .int (-i), .lst (txs yes), .lst (txs no)]]).map Sl.da)], rfl⟩
        have hy2 := hy.fp ⟨[.lst (((rowsU (fStock a b (some i) (some j)) first k).map (side yes no) ++ [D.tup [.str (atM b (first + k)), .str (atM a (first + k)), .int (-i), .lst (txs yes), .lst (txs no)]]).map Sl.da)], rfl⟩
        refine e_app (acc := (rowsU (fStock a b (some i) (some j)) first k).map (side yes no) ++ [D.tup [.str (atM b (first + k)), .str (atM a (first + k)), .int (-i), .lst (txs yes), .lst (txs no)]]) rfl get_new (by rw [List.length_append]; simp only [List.length_cons, List.length_nil]; omega) ?_
        walk_at "e"
        refine ⟨rfl, ⟨_, rfl⟩, ?_⟩
        rw [set_new, rowsU_succ]
        simp only [List.map_append, List.append_assoc]
        rfl
theorem w_road_letters (c : c_road_letters K ss o Rt Xt) (hX : ∀ ρ o C' fs, Xt C' fs o → AX B W ρ o C' fs) : Wf (r_road_letters K W) 6 B ss o Rt := by
  obtain ⟨first, last, mn, helper, rfl, h⟩ := c
  unfold Wf r_road_letters
  walk_at "st"
  walk_at "e"
  refine ⟨[], first, last, [some mn], decide (mn < 1), rfl, by simp, by simp, ?_⟩
  refine On.mono h (fun e p => ?_) fun C fs q => hX _ _ _ _ q
  have hc := chk_ok e
  have h0 := hc.2.2.1
  have h1 := hc.1
  walk_at "e"
  refine e_lcR2 ?_
  walk_at "e"
  refine ⟨first, last + 1, rfl, by omega, fun k acc o' => o' = o ∧ acc = rowsU (dRoad helper (helper + 1) mn) first k ∧ k ≤ 25, ⟨rfl, rfl, by omega⟩, ?_, ?_, ?_⟩
  · rintro k acc o' ⟨rfl, rfl, _⟩
    have := rowsU_len (f := dRoad helper (helper + 1) mn) (first := first) (fun t => by simp [dRoad]) k
    omega
  · rintro k acc o' hk ⟨rfl, rfl, _⟩
    walk_at "e"
    refine ⟨rfl, ?_, by omega⟩
    rw [rowsU_succ]
    rfl
  · rintro acc o' ⟨rfl, rfl, _⟩
    exact p _ (Fp.refl _)
theorem w_watch_sights (c : c_watch_sights K ss o Rt Xt) (hX : ∀ ρ o C' fs, Xt C' fs o → AX B W ρ o C' fs) : Wf (r_watch_sights K W) 5 B ss o Rt := by
  obtain ⟨a, first, last, helper, rfl, la, h⟩ := c
  unfold Wf r_watch_sights
  walk_at "st"
  walk_at "e"
  refine ⟨[], first, last, [], false, rfl, by simp, by simp, ?_⟩
  unfold callS at h
  simp only [show ¬ ((8 : Int) = 0) by decide, show ¬ ((8 : Int) = 1) by decide, show ¬ ((8 : Int) = 2) by decide, show ¬ ((8 : Int) = 3) by decide, show ¬ ((8 : Int) = 4) by decide, show ¬ ((8 : Int) = 5) by decide, show ¬ ((8 : Int) = 6) by decide, show ¬ ((8 : Int) = 7) by decide, if_false] at h
  cases e : chk [] first last [] false with
  | bad s =>
    rw [e] at h
    exact hX _ _ _ _ h
  | many s =>
    rw [e] at h
    exact hX _ _ _ _ h
  | ok =>
  rw [e] at h
  have hc := chk_ok e
  have h0 := hc.2.2.1
  have h1 := hc.1
  show WS _ _ _ _ _
  walk_at "e"
  refine ⟨a, rfl, sizeBig (by omega), ?_⟩
  walk_at "e"
  cases hw : isW a with
  | false =>
    rw [hw] at h
    walk_at "e"
    refine s_raiseX ?_
    walk_at "e"
    exact ⟨[.str "name"], rfl, rfl, by decide, hX _ _ _ _ h⟩
  | true =>
  rw [hw] at h
  have p : ∀ o', Fp o o' → Rt (.da (.lst (rowsU (dSight a helper) first (many first last)))) o' := h
  walk_at "e"
  refine e_lcR2 ?_
  walk_at "e"
  refine ⟨first, last + 1, rfl, by omega, fun k acc o' => o' = o ∧ acc = rowsU (dSight a helper) first k ∧ k ≤ 25, ⟨rfl, rfl, by omega⟩, ?_, ?_, ?_⟩
  · rintro k acc o' ⟨rfl, rfl, _⟩
    have := rowsU_len (f := dSight a helper) (first := first) (fun t => by simp [dSight]) k
    omega
  · rintro k acc o' hk ⟨rfl, rfl, _⟩
    walk_at "e"
    refine ⟨rfl, ?_, by omega⟩
    rw [rowsU_succ]
    rfl
  · rintro acc o' ⟨rfl, rfl, _⟩
    exact p _ (Fp.refl _)
end K03
end AB

set_option Elab.async false
set_option linter.all false
set_option maxRecDepth 100000
set_option maxHeartbeats 4000000
set_option autoImplicit false
namespace AB
open PySem L2 PySem.Spec PyProof.Rows He
namespace K03
local macro_rules | `(tactic| walk_at "e") => `(tactic| repeat' (first
  | (with_reducible refine s_seq ?_) | (with_reducible refine s_if ?_) | (with_reducible refine s_drop ?_) | (with_reducible refine s_ret ?_) | (with_reducible refine s_next ?_) | (with_reducible refine s_asg ?_)
  | (with_reducible refine g_name ?_)
  | (with_reducible refine t_test ?_) | (with_reducible refine t_B ?_) | (with_reducible refine t_or ?_) | (with_reducible refine t_and ?_) | (with_reducible refine t_not ?_)
  | ((with_reducible apply e_var); rfl) | (with_reducible refine e_int ?_) | (with_reducible refine e_str ?_) | (with_reducible refine e_bl ?_) | (with_reducible refine e_non ?_)
  | (with_reducible refine e_raw ?_) | (with_reducible refine ite_tt ?_) | (with_reducible refine ite_ff ?_) | (with_reducible refine ite_ntt ?_) | (with_reducible refine ite_nff ?_) | (with_reducible refine n_isiS ?_) | (with_reducible refine n_isiL ?_) | (with_reducible refine n_isiT ?_)
  | (with_reducible refine e_op ?_) | (with_reducible refine e_un ?_) | (with_reducible refine e_cb ?_) | (with_reducible refine e_callA ?_) | (with_reducible refine e_andV ?_) | (with_reducible refine e_if ?_)
  | (with_reducible refine a_cons ?_) | (with_reducible refine a_nil ?_)
  | (with_reducible refine o_gt ?_) | (with_reducible refine o_lt ?_) | (with_reducible refine o_le ?_) | (with_reducible refine o_ge ?_) | (with_reducible refine o_add ?_) | (with_reducible refine o_sub ?_) | (with_reducible refine o_neg ?_)
  | (with_reducible refine e_tup ?_) | (with_reducible refine e_lst ?_) | (with_reducible refine exd0 ?_) | (with_reducible refine exd1 ?_) | (with_reducible refine exd2 ?_) | (with_reducible refine exd3 ?_) | (with_reducible refine exd4 ?_) | (with_reducible refine exd5 ?_) | (with_reducible refine exd6 ?_)
  | (with_reducible refine o_isNotI ?_) | (with_reducible refine o_isNotN ?_) | (with_reducible refine o_isNotS ?_) | (with_reducible refine o_isI ?_) | (with_reducible refine o_isN ?_) | (with_reducible refine o_isS ?_) | (with_reducible refine o_isT ?_)
  | (with_reducible refine t_yes ?_) | (with_reducible refine gw_name (by decide) ?_)
  | (with_reducible refine s_par ?_) | (with_reducible refine ex2 ?_) | (with_reducible refine o_eqI ?_) | (with_reducible refine o_neI ?_) | (with_reducible refine o_ixL (by assumption) (by assumption) ?_)
  | (with_reducible refine e_sl ?_) | (with_reducible refine l_none ?_) | (with_reducible refine l_some ?_)
  | (with_reducible refine n_list (by assumption) ?_)
  | (with_reducible refine cat_in (by first | assumption | omega) (by omega) (by omega) ?_)
  | (with_reducible refine ite_dec (fun h => absurd h (by decide)) (fun _ => ?_)) | (with_reducible refine ite_dec (fun _ => ?_) (fun h => absurd (by decide) h))
  | (with_reducible refine Exists.intro _ (And.intro rfl ?_))))
local macro_rules | `(tactic| walk_at "st") => `(tactic| simp only [List.map_cons, List.map_nil, List.length_cons, List.length_nil, Nat.reduceAdd, Nat.reduceSub, List.replicate, List.cons_append, List.nil_append])
variable {K : PySem.W.Frag} {B : Base} {W : WX} {ss : List Sl} {o : O} {Rt : Sl → O → Prop} {Xt : Addr → List (Str × D) → O → Prop}
theorem set_two {o : O} {u v u' : OO} : (o ++ [u, v]).set o.length u' = o ++ [u', v] := by
  rw [List.set_append_right _ _ (Nat.le_refl _), Nat.sub_self]
  rfl
theorem set_two' {o : O} {u v v' : OO} : (o ++ [u, v]).set (o.length + 1) v' = o ++ [u, v'] := by
  rw [List.set_append_right _ _ (by omega), Nat.add_sub_cancel_left]
  rfl
theorem get_two {o : O} {u v : OO} : (o ++ [u, v])[o.length]? = some u := by simp
theorem get_two' {o : O} {u v : OO} : (o ++ [u, v])[o.length + 1]? = some v := by simp
theorem w_line_rows (hB : B.θ.length = o.length) (c : c_line_rows K ss o Rt Xt) (hX : ∀ ρ o C' fs, Xt C' fs o → AX B W ρ o C' fs) : Wf (r_line_rows K W) 11 B ss o Rt := by
  obtain ⟨a, helper, first, last, least, most, slow, fast, rfl, la, h⟩ := c
  unfold Wf r_line_rows
  walk_at "st"
  refine s_seq (s_drop (e_callA ?_))
  refine a_cons (e_lst ?_)
  walk_at "e"
  refine e_wrong (l := slow) (h := fast) rfl rfl ?_
  walk_at "e"
  refine ⟨[a], first, last, [some least, some most, slow, fast], belowZ fast || crossd slow fast, rfl, by simp [la], by simp, ?_⟩
  refine On.mono h (fun e p => ?_) fun C fs q => hX _ _ _ _ q
  have hc := chk_ok e
  have h0 := hc.2.2.1
  have h1 := hc.1
  refine s_seq (s_asg (e_lstO (a_nil ⟨Nat.zero_le _, g_name ?_⟩)))
  refine s_seq (s_asg (e_lstO (a_nil ⟨Nat.zero_le _, g_name ?_⟩)))
  rw [List.append_assoc]
  refine s_seq (s_range2 ?_)
  walk_at "e"
  refine ⟨first, last + 1, rfl, by omega, fun k ρ' o' => (∃ w, ρ' = [some (.da (.str a)), some (.da (.int helper)), some (.da (.int first)), some (.da (.int last)), some (.da (.int least)), some (.da (.int most)), some (.da (optD slow)), some (.da (optD fast)), some (.ow o.length), some (.ow (o.length + 1)), w]) ∧
    o' = o ++ [.lst ((rowsU (dLine a helper least most) first k).map Sl.da), .lst (((rowsU (fLine a first slow fast) first k).map (side [] [])).map Sl.da)], ⟨⟨_, by rw [List.length_append]; rfl⟩, rfl⟩, ?_, ?_⟩
  · rintro k ρ' o' hk ⟨⟨w, rfl⟩, rfl⟩
    have hk' : (k : Int) ≤ last - first := by omega
    have l1 := rowsU_len (f := dLine a helper least most) (first := first) (fun t => by simp [dLine]) k
    have l2 := rowsU_len (f := fLine a first slow fast) (first := first) (fun t => by by_cases hh : first < t <;> cases slow <;> cases fast <;> simp [fLine, hh]) k
    refine g_name (s_seq (s_drop (e_app (acc := rowsU (dLine a helper least most) first k) rfl get_two (by omega) ?_)))
    walk_at "e"
    refine ⟨rfl, ?_⟩
    rw [set_two]
    have e1 : rowsU (dLine a helper least most) first k ++ [D.tup [.str (atM a (first + k)), .int helper, .int (first + k), .int least, .int most]] = rowsU (dLine a helper least most) first (k + 1) := by rw [rowsU_succ]; rfl
    dsimp only
    rw [e1]
    generalize rowsU (dLine a helper least most) first (k + 1) = decs
    -- the slow rule
    refine s_cut (fun ρ2 o2 => ρ2 = [some (.da (.str a)), some (.da (.int helper)), some (.da (.int first)), some (.da (.int last)), some (.da (.int least)), some (.da (.int most)), some (.da (optD slow)), some (.da (optD fast)), some (.ow o.length), some (.ow (o.length + 1)), some (.da (.int (first + k)))] ∧
      o2 = o ++ [.lst (decs.map Sl.da), .lst (((rowsU (fLine a first slow fast) first k ++ fLine a first slow none (first + k)).map (side [] [])).map Sl.da)]) ?_ ?_
    · walk_at "e"
      refine ite_dec (fun h3 => ?_) fun h3 => ?_
      · cases slow with
        | none =>
          dsimp only [optD]
          walk_at "e"
          refine ⟨rfl, ?_⟩
          simp [fLine]
        | some i =>
          dsimp only [optD]
          walk_at "e"
          refine e_app (acc := (rowsU (fLine a first (some i) fast) first k).map (side [] [])) rfl get_two' (by rw [List.length_map]; omega) ?_
          walk_at "e"
          refine ⟨rfl, rfl, ?_⟩
          rw [set_two']
          have e2 : fLine a first (some i) none (first + k) = [(some (atM a (first + k - 1)), some (atM a (first + k)), -i)] := by simp [fLine, h3]
          rw [e2]
          simp only [List.map_append]
          rfl
      · walk_at "e"
        refine ⟨rfl, ?_⟩
        have e2 : fLine a first slow none (first + k) = [] := by unfold fLine; cases slow <;> simp [h3]
        rw [e2, List.append_nil]
    · rintro ρ2 o2 ⟨rfl, rfl⟩
      have e3 : rowsU (fLine a first slow fast) first (k + 1) = (rowsU (fLine a first slow fast) first k ++ fLine a first slow none (first + k)) ++ fLine a first none fast (first + k) := by
        rw [rowsU_succ, List.append_assoc]
        congr 1
        simp [fLine]
      have l3 : (rowsU (fLine a first slow fast) first k ++ fLine a first slow none (first + k)).length ≤ 1000 := by
        rw [List.length_append]
        have : (fLine a first slow none (first + k)).length ≤ 1 := by by_cases hh : first < first + k <;> cases slow <;> simp [fLine, hh]
        omega
      rw [e3]
      generalize rowsU (fLine a first slow fast) first k ++ fLine a first slow none (first + k) = acc at l3
      walk_at "e"
      refine ite_dec (fun h3 => ?_) fun h3 => ?_
      · cases fast with
        | none =>
          dsimp only [optD]
          walk_at "e"
          refine ⟨⟨_, rfl⟩, ?_⟩
          simp [fLine]
        | some i =>
          dsimp only [optD]
          walk_at "e"
          refine e_app (acc := acc.map (side [] [])) rfl get_two' (by rw [List.length_map]; omega) ?_
          walk_at "e"
          refine ⟨rfl, ⟨_, rfl⟩, ?_⟩
          rw [set_two']
          have e2 : fLine a first none (some i) (first + k) = [(some (atM a (first + k)), some (atM a (first + k - 1)), i)] := by simp [fLine, h3]
          rw [e2]
          simp only [List.map_append]
          rfl
      · walk_at "e"
        refine ⟨⟨_, rfl⟩, ?_⟩
        have e2 : fLine a first none fast (first + k) = [] := by unfold fLine; cases fast <;> simp [h3]
        rw [e2, List.append_nil]
  · rintro ρ' o' ⟨⟨w, rfl⟩, rfl⟩
    refine s_frz 8 (j := o.length) rfl (by omega) get_two (.lst _) ?_
    rw [set_two]
    refine s_frz 9 (j := o.length + 1) rfl (by omega) get_two' (.lst _) ?_
    rw [set_two']
    walk_at "e"
    exact p _ ⟨_, rfl⟩
theorem w__law_call (hB : B.θ.length = o.length) (c : c__law_call K ss o Rt Xt) (hX : ∀ ρ o C' fs, Xt C' fs o → AX B W ρ o C' fs) : Wf (r__law_call K W) 8 B ss o Rt := by
  obtain ⟨kind, a, b, xn, first, last, xm, xs, low, high, mn, helper, least, most, yes, no, rfl, A, h⟩ := c
  obtain ⟨k0, k8, la, lb, hn, ⟨nm, hm, m0, m1, m2, m3, m45⟩, hlo, hs⟩ := A
  unfold Wf r__law_call
  walk_at "st"
  have n0 : atI [Sl.da (.str a), Sl.da (.str b)] 0 = some (.da (.str a)) := rfl
  have n1 : atI [Sl.da (.str a), Sl.da (.str b)] 1 = some (.da (.str b)) := rfl
  have hk : kind = 0 ∨ kind = 1 ∨ kind = 2 ∨ kind = 3 ∨ kind = 4 ∨ kind = 5 ∨ kind = 6 ∨ kind = 7 ∨ kind = 8 := by omega
  have hX' : ∀ C fs, Xt C fs o → ∀ ρ, AX B W ρ o C fs := fun C fs q ρ => hX ρ o C fs q
  rcases hk with rfl | rfl | rfl | rfl | rfl | rfl | rfl | rfl | rfl
  · obtain ⟨s0, s1, hs, hs0, hs1⟩ := hs (by decide)
    have i0 : atI [s0, s1] 0 = some s0 := rfl
    have i1 : atI [s0, s1] 1 = some s1 := rfl
    walk_at "e"
    exact ⟨a, b, first, last, low, high, s0, s1, yes, no, rfl, hs0, hs1, la, lb, On.mono h (fun _ p => p) fun C fs q => hX' C fs q _⟩
  · obtain ⟨s0, s1, hs, hs0, hs1⟩ := hs (by decide)
    have i0 : atI [s0, s1] 0 = some s0 := rfl
    have i1 : atI [s0, s1] 1 = some s1 := rfl
    walk_at "e"
    exact ⟨a, b, first, last, mn, s0, s1, yes, no, rfl, hs0, hs1, la, lb, On.mono h (fun _ p => p) fun C fs q => hX' C fs q _⟩
  · obtain ⟨s0, s1, hs, hs0, hs1⟩ := hs (by decide)
    have i0 : atI [s0, s1] 0 = some s0 := rfl
    have i1 : atI [s0, s1] 1 = some s1 := rfl
    walk_at "e"
    exact ⟨a, b, first, last, mn, s0, s1, yes, no, rfl, hs0, hs1, la, lb, On.mono h (fun _ p => p) fun C fs q => hX' C fs q _⟩
  · obtain ⟨s0, s1, hs, hs0, hs1⟩ := hs (by decide)
    have i0 : atI [s0, s1] 0 = some s0 := rfl
    have i1 : atI [s0, s1] 1 = some s1 := rfl
    walk_at "e"
    exact ⟨a, last, mn, s0, s1, yes, no, rfl, hs0, hs1, la, On.mono h (fun _ p => p) fun C fs q => hX' C fs q _⟩
  · obtain ⟨s0, s1, hs, hs0, hs1⟩ := hs (by decide)
    obtain ⟨lw, rfl⟩ := hlo rfl
    dsimp only [optD] at m0
    have i0 : atI [s0, s1] 0 = some s0 := rfl
    have i1 : atI [s0, s1] 1 = some s1 := rfl
    walk_at "e"
    exact ⟨a, b, first, last, lw, mn, s0, yes, rfl, hs0, la, lb, On.mono h (fun _ p => p) fun C fs q => hX' C fs q _⟩
  · obtain ⟨s0, s1, hs, hs0, hs1⟩ := hs (by decide)
    have i0 : atI [s0, s1] 0 = some s0 := rfl
    have i1 : atI [s0, s1] 1 = some s1 := rfl
    walk_at "e"
    exact ⟨a, b, first, last, mn, s0, s1, yes, no, rfl, hs0, hs1, la, lb, On.mono h (fun _ p => p) fun C fs q => hX' C fs q _⟩
  · obtain ⟨m4, m5⟩ := m45 rfl
    walk_at "e"
    exact ⟨a, helper, first, last, least, most, low, high, rfl, la, On.mono h (fun _ p => p) fun C fs q => hX' C fs q _⟩
  · walk_at "e"
    exact ⟨first, last, mn, helper, rfl, On.mono h (fun _ p => p) fun C fs q => hX' C fs q _⟩
  · walk_at "e"
    exact ⟨a, first, last, helper, rfl, la, On.mono h (fun _ p => p) fun C fs q => hX' C fs q _⟩
end K03
end AB

set_option Elab.async false
set_option linter.all false
set_option maxRecDepth 100000
set_option maxHeartbeats 4000000
set_option autoImplicit false
namespace AB
open PySem L2 PySem.Spec PyProof.Rows He
namespace K03
local macro_rules | `(tactic| walk_at "e") => `(tactic| repeat' (first
  | (with_reducible refine s_seq ?_) | (with_reducible refine s_if ?_) | (with_reducible refine s_drop ?_) | (with_reducible refine s_ret ?_) | (with_reducible refine s_next ?_) | (with_reducible refine s_asg ?_)
  | (with_reducible refine g_name ?_)
  | (with_reducible refine t_test ?_) | (with_reducible refine t_B ?_) | (with_reducible refine t_or ?_) | (with_reducible refine t_and ?_) | (with_reducible refine t_not ?_)
  | ((with_reducible apply e_var); rfl) | (with_reducible refine e_int ?_) | (with_reducible refine e_str ?_) | (with_reducible refine e_bl ?_) | (with_reducible refine e_non ?_)
  | (with_reducible refine e_raw ?_) | (with_reducible refine ite_tt ?_) | (with_reducible refine ite_ff ?_) | (with_reducible refine ite_ntt ?_) | (with_reducible refine ite_nff ?_) | (with_reducible refine n_isiS ?_) | (with_reducible refine n_isiL ?_) | (with_reducible refine n_isiT ?_)
  | (with_reducible refine e_op ?_) | (with_reducible refine e_un ?_) | (with_reducible refine e_cb ?_) | (with_reducible refine e_callA ?_) | (with_reducible refine e_andV ?_) | (with_reducible refine e_if ?_)
  | (with_reducible refine a_cons ?_) | (with_reducible refine a_nil ?_)
  | (with_reducible refine o_gt ?_) | (with_reducible refine o_lt ?_) | (with_reducible refine o_le ?_) | (with_reducible refine o_ge ?_) | (with_reducible refine o_add ?_) | (with_reducible refine o_sub ?_) | (with_reducible refine o_neg ?_)
  | (with_reducible refine e_tup ?_) | (with_reducible refine e_lst ?_) | (with_reducible refine exd0 ?_) | (with_reducible refine exd1 ?_) | (with_reducible refine exd2 ?_) | (with_reducible refine exd3 ?_) | (with_reducible refine exd4 ?_) | (with_reducible refine exd5 ?_) | (with_reducible refine exd6 ?_)
  | (with_reducible refine o_isNotI ?_) | (with_reducible refine o_isNotN ?_) | (with_reducible refine o_isNotS ?_) | (with_reducible refine o_isI ?_) | (with_reducible refine o_isN ?_) | (with_reducible refine o_isS ?_) | (with_reducible refine o_isT ?_)
  | (with_reducible refine t_yes ?_) | (with_reducible refine gw_name (by decide) ?_)
  | (with_reducible refine s_par ?_) | (with_reducible refine ex2 ?_) | (with_reducible refine o_eqI ?_) | (with_reducible refine o_neI ?_) | (with_reducible refine o_ixL (by assumption) (by assumption) ?_)
  | (with_reducible refine e_sl ?_) | (with_reducible refine l_none ?_) | (with_reducible refine l_some ?_)
  | (with_reducible refine n_list (by assumption) ?_)
  | (with_reducible refine cat_in (by first | assumption | omega) (by omega) (by omega) ?_)
  | (with_reducible refine ite_dec (fun h => absurd h (by decide)) (fun _ => ?_)) | (with_reducible refine ite_dec (fun _ => ?_) (fun h => absurd (by decide) h))
  | (with_reducible refine Exists.intro _ (And.intro rfl ?_))))
local macro_rules | `(tactic| walk_at "st") => `(tactic| simp only [List.map_cons, List.map_nil, List.length_cons, List.length_nil, Nat.reduceAdd, Nat.reduceSub, List.replicate, List.cons_append, List.nil_append])
variable {K : PySem.W.Frag} {B : Base} {W : WX} {ss : List Sl} {o : O} {Rt : Sl → O → Prop} {Xt : Addr → List (Str × D) → O → Prop}
theorem lk1 {f : Str} {d : D} : List.lookup f [(f, d)] = some d := by simp [List.lookup]
theorem told_ok {r : Oc × D} (e : r.1 = .ok) : told r = .tup [.str "let", r.2] := by unfold told; rw [e]
theorem told_bad {r : Oc × D} {s : Str} (e : r.1 = .bad s) : told r = .tup [.str "pattern", .str s] := by unfold told; rw [e]
theorem told_many {r : Oc × D} {s : Str} (e : r.1 = .many s) : told r = .tup [.str "many", .str s] := by unfold told; rw [e]
theorem w__law_asked {mg : Str → Option Value} (T : Tx K mg) (hB : B.θ.length = o.length) (c : c__law_asked K ss o Rt Xt) : Wf (r__law_asked K W) 9 B ss o Rt := by
  obtain ⟨kind, a, b, xn, first, last, xm, xs, low, high, mn, helper, least, most, yes, no, rfl, A, h⟩ := c
  unfold Wf r__law_asked
  walk_at "st"
  walk_at "e"
  refine s_try (tb := fun W => tAsg (tCallS (SpC (c__law_call K)) (WE W) (tCons (tVar 0) (tCons (tVar 1) (tCons (tVar 2) (tCons (tVar 3) (tCons (tVar 4) (tCons (tVar 5) tNil))))))) (gName 6)) (fun _ _ _ _ => False) (fun _ _ _ _ z => z.elim) fun B' W' hX => ?_
  walk_at "e"
  refine ⟨kind, a, b, xn, first, last, xm, xs, low, high, mn, helper, least, most, yes, no, rfl, A, ?_⟩
  cases e : (callS kind a b first last low high mn helper least most yes no).1 with
  | ok =>
    intro o' f
    have h := h o' f
    rw [told_ok e] at h
    walk_at "e"
    exact h
  | bad s =>
    have h := h o (Fp.refl _)
    rw [told_bad e] at h
    refine hX _ _ _ _ ⟨true, T.m_BadPattern_BadPattern, fun _ x dd => ?_, fun z => by cases z⟩
    walk_at "e"
    refine e_xf ?_
    walk_at "e"
    refine ⟨_, .str s, rfl, lk1, ?_⟩
    walk_at "e"
    dsimp only [offA]
    walk_at "e"
    exact h
  | many s =>
    have h := h o (Fp.refl _)
    rw [told_many e] at h
    refine hX _ _ _ _ ⟨false, T.m_TooMany_BadPattern, (fun z => by cases z), fun _ => ⟨true, T.m_TooMany_TooMany, fun _ x dd => ?_, fun z => by cases z⟩⟩
    walk_at "e"
    refine e_xf ?_
    walk_at "e"
    refine ⟨_, .str s, rfl, lk1, ?_⟩
    walk_at "e"
    dsimp only [offA]
    walk_at "e"
    exact h
theorem log62 {n : Int} (h0 : 0 < n) (h : n < 2 ^ 62) : n.natAbs.log2 < 9000 := by
  have : n.natAbs.log2 < 1920 := log_small (by omega)
  omega
theorem Fj.one {j : Nat} {a b c : Int} (h : Pu o j) : Fj j o (o.set j (.lst [.da (.int a), .da (.int b), .da (.int c)])) :=
  ⟨by rw [List.length_set]; exact Nat.le_refl _, fun i _ n => List.getElem?_set_ne (fun z => n z.symm), ⟨a, b, c, List.getElem?_set_self h.lt⟩⟩
theorem w__law_draw (c : c__law_draw K ss o Rt Xt) : Wf (r__law_draw K W) 3 B ss o Rt := by
  obtain ⟨j, n, rfl, n0, n1, pu, h⟩ := c
  have pu' := pu
  obtain ⟨p0, p1, p2, hp⟩ := pu
  unfold Wf r__law_draw
  walk_at "st"
  have hL : LL o (.ow j) [.da (.int p0), .da (.int p1), .da (.int p2)] := hp
  have i0 : atI [Sl.da (.int p0), Sl.da (.int p1), Sl.da (.int p2)] 0 = some (.da (.int p0)) := rfl
  have cd : CDivW p0 n := ⟨n0, log62 n0 n1⟩
  walk_at "e"
  refine ite_dec (fun h1 => ?_) fun h1 => ?_
  · walk_at "e"
    refine n_int ?_
    walk_at "e"
    refine o_mod n0 ?_
    walk_at "e"
    refine o_div cd ?_
    refine g_set ?_
    walk_at "e"
    refine ⟨j, _, 0, 0, rfl, rfl, hp, rfl, ?_⟩
    walk_at "e"
    exact h _ _ (Int.emod_nonneg _ (by omega)) (Int.emod_lt_of_pos _ n0) (by rw [List.length_set]) (Fj.one pu')
  · walk_at "e"
    refine s_augS ?_
    walk_at "e"
    refine ⟨j, _, 2, 2, _, rfl, rfl, hp, rfl, rfl, ?_⟩
    walk_at "e"
    refine ip_I ⟨_, hp, rfl, ?_⟩
    have lt := pu'.lt
    have hp2 : LL (o.set j (.lst [.da (.int p0), .da (.int p1), .da (.int (p2 + 1))])) (.ow j) [.da (.int p0), .da (.int p1), .da (.int (p2 + 1))] := List.getElem?_set_self lt
    have j1 : atI [Sl.da (.int p0), Sl.da (.int p1), Sl.da (.int (p2 + 1))] 1 = some (.da (.int p1)) := rfl
    have j2 : atI [Sl.da (.int p0), Sl.da (.int p1), Sl.da (.int (p2 + 1))] 2 = some (.da (.int (p2 + 1))) := rfl
    show WS B _ _ _ (o.set j (.lst [.da (.int p0), .da (.int p1), .da (.int (p2 + 1))]))
    walk_at "e"
    refine o_mul (.inr ⟨by decide, by decide⟩) ?_
    walk_at "e"
    refine o_mul (.inr ⟨by decide, by decide⟩) ?_
    walk_at "e"
    refine n_int ?_
    walk_at "e"
    refine o_mod (by decide) ?_
    refine g_set ?_
    walk_at "e"
    refine ⟨j, _, 1, 1, rfl, rfl, hp2, rfl, ?_⟩
    rw [List.set_set]
    generalize hq : ((p1 * 48271 + (p2 + 1) * 69621) % 2147483647 : Int) = q1
    have hp3 : LL (o.set j (.lst [.da (.int p0), .da (.int q1), .da (.int (p2 + 1))])) (.ow j) [.da (.int p0), .da (.int q1), .da (.int (p2 + 1))] := List.getElem?_set_self lt
    have k1 : atI [Sl.da (.int p0), Sl.da (.int q1), Sl.da (.int (p2 + 1))] 1 = some (.da (.int q1)) := rfl
    have k2 : atI [Sl.da (.int p0), Sl.da (.int q1), Sl.da (.int (p2 + 1))] 2 = some (.da (.int (p2 + 1))) := rfl
    show WS B _ _ _ (o.set j (.lst [.da (.int p0), .da (.int q1), .da (.int (p2 + 1))]))
    walk_at "e"
    refine o_mul (.inr ⟨by decide, by decide⟩) ?_
    walk_at "e"
    refine o_mul (.inr ⟨by decide, by decide⟩) ?_
    walk_at "e"
    refine n_int ?_
    walk_at "e"
    refine o_mod (by decide) ?_
    walk_at "e"
    refine o_div ⟨by decide, by decide +kernel⟩ ?_
    walk_at "e"
    refine o_mod n0 ?_
    exact h _ _ (Int.emod_nonneg _ (by omega)) (Int.emod_lt_of_pos _ n0) (by rw [List.length_set]) (Fj.one pu')
theorem draw_in {j : Nat} {n : Int} {P : Sl → O → Prop} {X : Addr → List (Str × D) → O → Prop} (n0 : 0 < n) (n1 : n < 2 ^ 62) (pu : Pu o j) (h : ∀ (r : Int) o', 0 ≤ r → r < n → Fj j o o' → P (.da (.int r)) o') : c__law_draw K [.ow j, .da (.int n)] o P X :=
  ⟨j, n, rfl, n0, n1, pu, fun r o' h0 h1 _ f => h r o' h0 h1 f⟩
theorem w__law_at (c : c__law_at K ss o Rt Xt) : Wf (r__law_at K W) 2 B ss o Rt := w_at_moment (W := W) (Xt := Xt) c
theorem w__law_number (c : c__law_number K ss o Rt Xt) : Wf (r__law_number K W) 3 B ss o Rt := by
  obtain ⟨j, n, rfl, pu, n0, n1, h⟩ := c
  unfold Wf r__law_number
  walk_at "st"
  walk_at "e"
  refine draw_in (by decide) (by decide) pu fun r o1 r0 r1 f1 => ?_
  walk_at "e"
  refine ite_dec (fun h1 => ?_) fun h1 => ?_
  · walk_at "e"
    refine o_pow ⟨by decide, by decide, by decide⟩ ?_
    walk_at "e"
    refine draw_in (by decide) (by decide) f1.pu fun r o2 r0 r1 f2 => ?_
    walk_at "e"
    refine h _ _ ?_ ?_ (f1.trans f2)
    · have : (10 : Int) ^ (9 : Int).toNat = 1000000000 := by decide
      rw [this]; omega
    · have : (10 : Int) ^ (9 : Int).toNat = 1000000000 := by decide
      rw [this]; omega
  walk_at "e"
  refine ite_dec (fun h1 => ?_) fun h1 => ?_
  · walk_at "e"
    refine draw_in (by decide) (by decide) f1.pu fun r o2 r0 r1 f2 => ?_
    walk_at "e"
    refine o_pow ⟨by decide, by decide, by decide⟩ ?_
    walk_at "e"
    refine h _ _ ?_ ?_ (f1.trans f2)
    · have : (10 : Int) ^ (9 : Int).toNat = 1000000000 := by decide
      rw [this]; omega
    · have : (10 : Int) ^ (9 : Int).toNat = 1000000000 := by decide
      rw [this]; omega
  walk_at "e"
  refine o_mul (.inl ⟨by decide, by decide⟩) ?_
  walk_at "e"
  refine draw_in (by omega) (by omega) f1.pu fun r o2 r0 r1 f2 => ?_
  walk_at "e"
  exact h _ _ (by omega) (by omega) (f1.trans f2)
end K03
end AB

set_option Elab.async false
set_option linter.all false
set_option maxRecDepth 100000
set_option maxHeartbeats 4000000
set_option autoImplicit false
namespace AB
open PySem L2 PySem.Spec PyProof.Rows He
namespace K03
local macro_rules | `(tactic| walk_at "e") => `(tactic| repeat' (first
  | (with_reducible refine s_seq ?_) | (with_reducible refine s_if ?_) | (with_reducible refine s_drop ?_) | (with_reducible refine s_ret ?_) | (with_reducible refine s_next ?_) | (with_reducible refine s_asg ?_)
  | (with_reducible refine g_name ?_)
  | (with_reducible refine t_test ?_) | (with_reducible refine t_B ?_) | (with_reducible refine t_or ?_) | (with_reducible refine t_and ?_) | (with_reducible refine t_not ?_)
  | ((with_reducible apply e_var); rfl) | (with_reducible refine e_int ?_) | (with_reducible refine e_str ?_) | (with_reducible refine e_bl ?_) | (with_reducible refine e_non ?_)
  | (with_reducible refine e_raw ?_) | (with_reducible refine ite_tt ?_) | (with_reducible refine ite_ff ?_) | (with_reducible refine ite_ntt ?_) | (with_reducible refine ite_nff ?_) | (with_reducible refine n_isiS ?_) | (with_reducible refine n_isiL ?_) | (with_reducible refine n_isiT ?_)
  | (with_reducible refine e_op ?_) | (with_reducible refine e_un ?_) | (with_reducible refine e_cb ?_) | (with_reducible refine e_callA ?_) | (with_reducible refine e_andV ?_) | (with_reducible refine e_if ?_)
  | (with_reducible refine a_cons ?_) | (with_reducible refine a_nil ?_)
  | (with_reducible refine o_gt ?_) | (with_reducible refine o_lt ?_) | (with_reducible refine o_le ?_) | (with_reducible refine o_ge ?_) | (with_reducible refine o_add ?_) | (with_reducible refine o_sub ?_) | (with_reducible refine o_neg ?_)
  | (with_reducible refine e_tup ?_) | (with_reducible refine e_lst ?_) | (with_reducible refine exd0 ?_) | (with_reducible refine exd1 ?_) | (with_reducible refine exd2 ?_) | (with_reducible refine exd3 ?_) | (with_reducible refine exd4 ?_) | (with_reducible refine exd5 ?_) | (with_reducible refine exd6 ?_)
  | (with_reducible refine o_isNotI ?_) | (with_reducible refine o_isNotN ?_) | (with_reducible refine o_isNotS ?_) | (with_reducible refine o_isI ?_) | (with_reducible refine o_isN ?_) | (with_reducible refine o_isS ?_) | (with_reducible refine o_isT ?_)
  | (with_reducible refine t_yes ?_) | (with_reducible refine gw_name (by decide) ?_)
  | (with_reducible refine s_par ?_) | (with_reducible refine ex2 ?_) | (with_reducible refine o_eqI ?_) | (with_reducible refine o_neI ?_) | (with_reducible refine o_ixL (by assumption) (by assumption) ?_)
  | (with_reducible refine e_sl ?_) | (with_reducible refine l_none ?_) | (with_reducible refine l_some ?_)
  | (with_reducible refine n_list (by assumption) ?_)
  | (with_reducible refine cat_in (by first | assumption | omega) (by omega) (by omega) ?_)
  | (with_reducible refine ite_dec (fun h => absurd h (by decide)) (fun _ => ?_)) | (with_reducible refine ite_dec (fun _ => ?_) (fun h => absurd (by decide) h))
  | (with_reducible refine Exists.intro _ (And.intro rfl ?_))))
local macro_rules | `(tactic| walk_at "st") => `(tactic| simp only [List.map_cons, List.map_nil, List.length_cons, List.length_nil, Nat.reduceAdd, Nat.reduceSub, List.replicate, List.cons_append, List.nil_append])
variable {K : PySem.W.Frag} {B : Base} {W : WX} {ss : List Sl} {o : O} {Rt : Sl → O → Prop} {Xt : Addr → List (Str × D) → O → Prop}
theorem LL.fj {o o' : O} {x : Sl} {l : List Sl} {j : Nat} (h : LL o x l) (hx : x ≠ .ow j) (f : Fj j o o') : LL o' x l := by
  cases x with
  | ow i => exact f.at h (fun z => hx (by rw [z]))
  | da d => cases d <;> exact h
theorem py_txs : ∀ l : List Str, PyData.plainAll (D.pyL (txs l)) = true
  | [] => rfl
  | s :: r => py_txs r
theorem o_notInLL {x : D} {y : Sl} {ds : List D} {P : Sl → O → Prop} (h : LL o y (ds.map Sl.da)) (hx : x.py.plain = true) (hy : PyData.plainAll (D.pyL ds) = true) (hm : x.py.depth ≤ 60) (p : P (.da (.bl (!((D.pyL ds).any fun z => PyData.eqv z x.py)))) o) : A2 B (rNotInA K) (.da x) y o P := A2.or1 (
  A2.of (z := .da (.bl (!((D.pyL ds).any fun z => PyData.eqv z x.py)))) (fun F H θ σ ρ v u k r1 r2 Q q => by
    obtain ⟨a, xs, rfl, h1, h2⟩ := h.at k r2
    have r3 : Rep H (.ref a) (.lst ds) := Rep.lst h1 ((da_all h2).mono k.fh)
    exact ⟨_, _, (Rep.mono k.fh r1).dp hx, .inl (r3.dp (by simpa [D.py, PyData.plain] using hy)), hx, hy, hm, q _ (Rep.bl _)⟩) p)
abbrev sigs : Str := "abcdefghijklmnopqrstuvwxyz0123456789."
theorem sigLen : sigs.length = 37 := by decide +kernel
theorem sigR : ∀ n : Nat, n < 37 → (sigs.cps.toList[n]?).map inR = some true := by decide +kernel
theorem sigF : ∀ n : Nat, n < 26 → (sigs.cps.toList[n]?).map inF = some true := by decide +kernel
theorem FR {c : Nat} (h : inF c = true) : inR c = true := by
  unfold inF at h
  unfold inR
  simp at h ⊢
  omega
theorem sig_at {r : Int} {f : Nat → Bool} {m : Nat} (hf : ∀ n : Nat, n < m → (sigs.cps.toList[n]?).map f = some true) (h0 : 0 ≤ r) (h1 : r < m) (hm : m ≤ 37) : ∃ c, atI sigs.cps.toList r = some c ∧ f c = true := by
  obtain ⟨n, rfl⟩ := Int.eq_ofNat_of_zero_le h0
  have hn := hf n (by omega)
  obtain ⟨c, hc, hfc⟩ := Option.map_eq_some_iff.mp hn
  refine ⟨c, atI_of (j := n) ?_ hc, hfc⟩
  have hl := (List.getElem?_eq_some_iff.mp hc).1
  unfold ixN
  rw [if_pos h0, if_pos (by omega)]
  rfl
structure isB (s : Str) : Prop where
  hd : ((s.cps.toList.head?).map inF).getD false = true
  al : s.cps.toList.all inR = true
theorem app_toList (x y : Str) : (x ++ y).cps.toList = x.cps.toList ++ y.cps.toList := by
  show (x.cps ++ y.cps).toList = _
  rw [Array.toList_append]
theorem isB.app {x y : Str} (h : isB x) (hy : y.cps.toList.all inR = true) : isB (x ++ y) := by
  obtain ⟨h1, h2⟩ := h
  refine ⟨?_, ?_⟩
  · rw [app_toList]
    cases e : x.cps.toList with
    | nil => rw [e] at h1; simp at h1
    | cons c r => rw [e] at h1; exact h1
  · rw [app_toList, List.all_append, h2, hy]
    rfl
theorem isB.w {s : Str} (h : isB s) (h1 : 1 ≤ s.length) (h2 : s.length ≤ 12) (h3 : (decide (s = ("if" : Str)) || decide (s = ("unless" : Str))) = false) : isW s = true := by
  unfold isW
  rw [h.hd, h.al, h3, decide_eq_true ⟨h1, h2⟩]
  rfl
theorem cut8 (s : Str) : (cutS s none (some 8)).cps.toList = s.cps.toList.take 8 := by
  unfold cutS HT.sIx Str.length
  simp
theorem len_toList (s : Str) : s.length = s.cps.toList.length := by simp [Str.length]
theorem isB.cut {s : Str} (h : isB s) : isB (cutS s none (some 8)) := by
  obtain ⟨h1, h2⟩ := h
  refine ⟨?_, ?_⟩
  · rw [cut8]
    cases e : s.cps.toList with
    | nil => rw [e] at h1; simp at h1
    | cons c r => rw [e] at h1; exact h1
  · rw [cut8]
    rw [List.all_eq_true] at h2 ⊢
    exact fun x hx => h2 x (List.mem_of_mem_take hx)
theorem numR : ∀ n : Nat, n < 60 → (((toString (n : Int) : String) : Str).cps.toList.all inR) = true := by decide +kernel
theorem num59 : 57 ∈ (((toString ((59 : Nat) : Int) : String) : Str).cps.toList) := by decide +kernel
theorem num60 : ∀ n : Nat, n < 60 → ((toString (n : Int) : String) : Str).length ≤ 2 ∧ 1 ≤ ((toString (n : Int) : String) : Str).length := by decide +kernel
theorem kw9 {s : Str} (h : 57 ∈ s.cps.toList) : (decide (s = ("if" : Str)) || decide (s = ("unless" : Str))) = false := by
  have h1 : s ≠ ("if" : Str) := fun e => by
    rw [e] at h
    exact absurd h (by decide +kernel)
  have h2 : s ≠ ("unless" : Str) := fun e => by
    rw [e] at h
    exact absurd h (by decide +kernel)
  rw [decide_eq_false h1, decide_eq_false h2]
  rfl
theorem one_len (c : Nat) : (⟨#[c]⟩ : Str).length = 1 := rfl
theorem w__law_word (c : c__law_word K ss o Rt Xt) : Wf (r__law_word K W) 6 B ss o Rt := by
  obtain ⟨j, x, taken, rfl, pu, hxj, hx, h⟩ := c
  unfold Wf r__law_word
  walk_at "st"
  walk_at "e"
  refine draw_in (by decide) (by decide) pu fun r o1 r0 r1 f1 => ?_
  obtain ⟨c0, hc0, hF⟩ := sig_at sigF r0 r1 (by decide)
  refine o_ixS (sizeBig (by rw [sigLen]; decide)) hc0 ?_
  have b0 : isB ⟨#[c0]⟩ := ⟨by simpa using hF, by simp [FR hF]⟩
  walk_at "e"
  refine s_range1 ?_
  -- the first loop, once its count n is known
  have loop : ∀ (n : Int) (o2 : O), 0 ≤ n → n ≤ 11 → Fj j o o2 → -(2 ^ 62) ≤ n ∧ n < 2 ^ 62 ∧ ∃ Pv : Nat → R → O → Prop, Pv 0 [some (.ow j), some x, some (.da (.str sigs)), some (.da (.str ⟨#[c0]⟩)), none, none] o2 ∧
      (∀ (i : Nat) ρ' o', i < n.toNat → Pv i ρ' o' → AG B (gName 4) (.da (.int (i : Int))) ρ' o' fun ρ2 o2 => WS B (tAsg (tOp rAddA (tVar 3) (tOp (rIxA K) (tVar 2) (tCallS (SpC (c__law_draw K)) (WE W) (tCons (tVar 0) (tCons (tC (.int 37)) tNil))))) (gName 3)) { nx := Pv (i + 1), rt := Rt, bk := fun _ _ => False, ct := Pv (i + 1) } ρ2 o2) ∧
      ∀ ρ' o', Pv n.toNat ρ' o' → ∃ s, isB s ∧ 1 ≤ s.length ∧ s.length ≤ 12 ∧ Fj j o o' ∧ ∃ u, ρ' = [some (.ow j), some x, some (.da (.str sigs)), some (.da (.str s)), u, none] := by
    intro n o2 n0 n1 f2
    refine ⟨by omega, by omega, fun i ρ' o' => i ≤ n.toNat ∧ Fj j o o' ∧ ∃ s u, isB s ∧ s.length = i + 1 ∧ ρ' = [some (.ow j), some x, some (.da (.str sigs)), some (.da (.str s)), u, none], ⟨by omega, f2, _, _, b0, rfl, rfl⟩, ?_, ?_⟩
    · rintro i ρ' o' hi ⟨_, f3, s, u, hs, hl, rfl⟩
      walk_at "e"
      refine draw_in (by decide) (by decide) f3.pu fun r o4 r0 r1 f4 => ?_
      obtain ⟨c1, hc1, hR⟩ := sig_at sigR r0 r1 (by decide)
      refine o_ixS (sizeBig (by rw [sigLen]; decide)) hc1 ?_
      refine o_addS (sizeBig (by rw [one_len]; omega)) ?_
      walk_at "e"
      exact ⟨by omega, f3.trans f4, _, _, hs.app (by simp [hR]), by rw [slen_app, hl, one_len], rfl⟩
    · rintro ρ' o' ⟨_, f3, s, u, hs, hl, rfl⟩
      exact ⟨s, hs, by omega, by omega, f3, u, rfl⟩
  have rest : ∀ ρ' o', (∃ s, isB s ∧ 1 ≤ s.length ∧ s.length ≤ 12 ∧ Fj j o o' ∧ ∃ u, ρ' = [some (.ow j), some x, some (.da (.str sigs)), some (.da (.str s)), u, none]) →
      WS B (tSeq (tAsg (tVar 3) (gName 5)) (tSeq (tFor (iRng1 (tCons (tC (.int 60)) tNil)) (gName 4) (tSeq (tIfS (tAnd (tTest (tOp (rNotInA K) (tVar 5) (tVar 1))) (tTest (tOp (rNotInA K) (tVar 5) (tLst (tCons (tC (.str "if")) (tCons (tC (.str "unless")) tNil)))))) (tRet (tVar 5)) tNext)
        (tAsg (tOp rAddA (tSl (rSlA K) (tVar 3) tNoPart (tPart (tC (.int 8)))) (tCB rStrI (tCons (tVar 4) tNil))) (gName 5)))) (tRet (tVar 5)))) { nx := fun _ o => Rt (.da .non) o, rt := Rt } ρ' o' := by
    rintro ρ' o' ⟨s, hs, l1, l2, f3, u, rfl⟩
    walk_at "e"
    refine s_range1 ?_
    walk_at "e"
    have cl : (cutS s none (some 8)).length ≤ 8 := by rw [len_toList, cut8, List.length_take]; omega
    have cl1 : 1 ≤ (cutS s none (some 8)).length := by rw [len_toList, cut8, List.length_take, ← len_toList]; omega
    refine ⟨by decide, by decide, fun i ρ'' o'' => o'' = o' ∧ i ≤ 60 ∧ ∃ w u, isB w ∧ 1 ≤ w.length ∧ w.length ≤ 12 ∧ (i = 60 → 57 ∈ w.cps.toList) ∧ ρ'' = [some (.ow j), some x, some (.da (.str sigs)), some (.da (.str s)), u, some (.da (.str w))], ⟨rfl, by decide, s, u, hs, l1, l2, (fun z => by cases z), rfl⟩, ?_, ?_⟩
    · rintro i ρ'' o'' hi ⟨rfl, _, w, u', hw, w1, w2, _, rfl⟩
      have hx3 := LL.fj hx hxj f3
      have next : WS B (tAsg (tOp rAddA (tSl (rSlA K) (tVar 3) tNoPart (tPart (tC (.int 8)))) (tCB rStrI (tCons (tVar 4) tNil))) (gName 5)) { nx := fun ρ2 o2 => o2 = o'' ∧ i + 1 ≤ 60 ∧ ∃ w u, isB w ∧ 1 ≤ w.length ∧ w.length ≤ 12 ∧ (i + 1 = 60 → 57 ∈ w.cps.toList) ∧ ρ2 = [some (.ow j), some x, some (.da (.str sigs)), some (.da (.str s)), u, some (.da (.str w))], rt := Rt }
          [some (.ow j), some x, some (.da (.str sigs)), some (.da (.str s)), some (.da (.int i)), some (.da (.str w))] o'' := by
        have hi60 : i < 60 := hi
        have nl := num60 i hi60
        walk_at "e"
        refine sl_str (sizeBig (by omega)) ?_
        walk_at "e"
        refine n_str (log_small (by omega)) ?_
        refine o_addS (sizeBig (by omega)) ?_
        walk_at "e"
        refine ⟨rfl, by omega, _, _, hs.cut.app (numR i hi60), by rw [slen_app]; omega, by rw [slen_app]; omega, fun z => ?_, rfl⟩
        have e59 : i = 59 := by omega
        subst e59
        rw [app_toList]
        exact List.mem_append_right _ num59
      walk_at "e"
      refine o_notInLL hx3 rfl (py_txs _) (by simp [D.py, PyData.depth]) ?_
      walk_at "e"
      refine ite_b (fun h1 => ?_) fun h1 => ?_
      · walk_at "e"
        refine o_notInL rfl rfl (by simp [D.py, PyData.depth]) ?_
        rw [notKw]
        cases hk : (decide (w = ("if" : Str)) || decide (w = ("unless" : Str))) with
        | false =>
          walk_at "e"
          exact h _ _ (hw.w w1 w2 hk) f3
        | true =>
          refine ⟨_, rfl, ite_ff (s_next ?_)⟩
          exact next.mono (fun _ _ q => q) (fun _ _ q => q) (fun _ _ q => q.elim) (fun _ _ q => q.elim)
      · refine s_next ?_
        exact next.mono (fun _ _ q => q) (fun _ _ q => q) (fun _ _ q => q.elim) (fun _ _ q => q.elim)
    · rintro ρ'' o'' ⟨rfl, _, w, u', hw, w1, w2, h9, rfl⟩
      walk_at "e"
      exact h _ _ (hw.w w1 w2 (kw9 (h9 rfl))) f3
  walk_at "e"
  refine draw_in (by decide) (by decide) f1.pu fun r2 o2 s0 s1 f2 => ?_
  walk_at "e"
  refine ite_dec (fun h1 => ?_) fun h1 => ?_
  · walk_at "e"
    obtain ⟨b1, b2, Pv, q0, q1, q2⟩ := loop 11 o2 (by decide) (by decide) (f1.trans f2)
    refine ⟨b1, b2, Pv, q0, fun i ρ' o' hi hp => ?_, fun ρ' o' hp => rest ρ' o' (q2 ρ' o' hp)⟩
    intro F H θ σ v k rr Q q
    refine q1 i ρ' o' hi hp F H θ σ v k rr Q fun F' H' θ' σ' ρ'' o'' t k' w => q F' H' θ' σ' ρ'' o'' t k' (w.mono (fun _ _ q => q) (fun _ _ q => q) (fun _ _ q => q.elim) (fun _ _ q => q))
  · walk_at "e"
    refine draw_in (by decide) (by decide) f2.pu fun r3 o3 t0 t1 f3 => ?_
    walk_at "e"
    obtain ⟨b1, b2, Pv, q0, q1, q2⟩ := loop r3 o3 (by omega) (by omega) ((f1.trans f2).trans f3)
    refine ⟨b1, b2, Pv, q0, fun i ρ' o' hi hp => ?_, fun ρ' o' hp => rest ρ' o' (q2 ρ' o' hp)⟩
    intro F H θ σ v k rr Q q
    refine q1 i ρ' o' hi hp F H θ σ v k rr Q fun F' H' θ' σ' ρ'' o'' t k' w => q F' H' θ' σ' ρ'' o'' t k' (w.mono (fun _ _ q => q) (fun _ _ q => q) (fun _ _ q => q.elim) (fun _ _ q => q))
end K03
end AB

set_option Elab.async false
set_option linter.all false
set_option maxRecDepth 100000
set_option maxHeartbeats 4000000
set_option autoImplicit false
namespace AB
open PySem L2 PySem.Spec PyProof.Rows He
namespace K03
local macro_rules | `(tactic| walk_at "e") => `(tactic| repeat' (first
  | (with_reducible refine s_seq ?_) | (with_reducible refine s_if ?_) | (with_reducible refine s_drop ?_) | (with_reducible refine s_ret ?_) | (with_reducible refine s_next ?_) | (with_reducible refine s_asg ?_)
  | (with_reducible refine g_name ?_)
  | (with_reducible refine t_test ?_) | (with_reducible refine t_B ?_) | (with_reducible refine t_or ?_) | (with_reducible refine t_and ?_) | (with_reducible refine t_not ?_)
  | ((with_reducible apply e_var); rfl) | (with_reducible refine e_int ?_) | (with_reducible refine e_str ?_) | (with_reducible refine e_bl ?_) | (with_reducible refine e_non ?_)
  | (with_reducible refine e_raw ?_) | (with_reducible refine ite_tt ?_) | (with_reducible refine ite_ff ?_) | (with_reducible refine ite_ntt ?_) | (with_reducible refine ite_nff ?_) | (with_reducible refine n_isiS ?_) | (with_reducible refine n_isiL ?_) | (with_reducible refine n_isiT ?_)
  | (with_reducible refine e_op ?_) | (with_reducible refine e_un ?_) | (with_reducible refine e_cb ?_) | (with_reducible refine e_callA ?_) | (with_reducible refine e_andV ?_) | (with_reducible refine e_if ?_)
  | (with_reducible refine a_cons ?_) | (with_reducible refine a_nil ?_)
  | (with_reducible refine o_gt ?_) | (with_reducible refine o_lt ?_) | (with_reducible refine o_le ?_) | (with_reducible refine o_ge ?_) | (with_reducible refine o_add ?_) | (with_reducible refine o_sub ?_) | (with_reducible refine o_neg ?_)
  | (with_reducible refine e_tup ?_) | (with_reducible refine e_lst ?_) | (with_reducible refine exd0 ?_) | (with_reducible refine exd1 ?_) | (with_reducible refine exd2 ?_) | (with_reducible refine exd3 ?_) | (with_reducible refine exd4 ?_) | (with_reducible refine exd5 ?_) | (with_reducible refine exd6 ?_)
  | (with_reducible refine o_isNotI ?_) | (with_reducible refine o_isNotN ?_) | (with_reducible refine o_isNotS ?_) | (with_reducible refine o_isI ?_) | (with_reducible refine o_isN ?_) | (with_reducible refine o_isS ?_) | (with_reducible refine o_isT ?_)
  | (with_reducible refine t_yes ?_) | (with_reducible refine gw_name (by decide) ?_)
  | (with_reducible refine s_par ?_) | (with_reducible refine ex2 ?_) | (with_reducible refine o_eqI ?_) | (with_reducible refine o_neI ?_) | (with_reducible refine o_ixL (by assumption) (by assumption) ?_)
  | (with_reducible refine e_sl ?_) | (with_reducible refine l_none ?_) | (with_reducible refine l_some ?_)
  | (with_reducible refine n_list (by assumption) ?_)
  | (with_reducible refine cat_in (by first | assumption | omega) (by omega) (by omega) ?_)
  | (with_reducible refine ite_dec (fun h => absurd h (by decide)) (fun _ => ?_)) | (with_reducible refine ite_dec (fun _ => ?_) (fun h => absurd (by decide) h))
  | (with_reducible refine Exists.intro _ (And.intro rfl ?_))))
local macro_rules | `(tactic| walk_at "st") => `(tactic| simp only [List.map_cons, List.map_nil, List.length_cons, List.length_nil, Nat.reduceAdd, Nat.reduceSub, List.replicate, List.cons_append, List.nil_append])
variable {K : PySem.W.Frag} {B : Base} {W : WX} {ss : List Sl} {o : O} {Rt : Sl → O → Prop} {Xt : Addr → List (Str × D) → O → Prop}
theorem e_app2 {ρ : R} {t : TA} {r jo : Nat} {acc : List D} {P : Sl → O → Prop} (hr : ρ[r]? = some (some (.ow jo))) (ho : o[jo]? = some (.lst (acc.map Sl.da))) (hl : acc.length ≤ 1000000)
    (h : AA B t ρ o fun xs o2 => ∃ d, xs = [.da d] ∧ o2[jo]? = some (.lst (acc.map Sl.da)) ∧ P (.da .non) (o2.set jo (.lst ((acc ++ [d]).map Sl.da)))) : AE B (tBM K "list" rAppend (tVar r) t) ρ o P := by
  refine e_bm ?_
  refine e_var hr ?_
  refine ⟨⟨_, ho⟩, ?_⟩
  intro F H θ σ k Q q
  refine h F H θ σ k Q fun vs xs F' H' θ' o' t' k' r' p => ?_
  obtain ⟨d, rfl, ho', p⟩ := p
  refine q vs _ F' H' θ' _ t' k' r' (m_append ho' (Nat.lt_of_le_of_lt (by rw [List.length_map]; exact hl) (by rw [sizeLine_eq]; decide)) ?_)
  rw [List.map_append] at p
  exact p
theorem Fj.lenlt {j : Nat} {o o' : O} (f : Fj j o o') {u : OO} {i : Nat} (h : o'[i]? = some u) : i < o'.length := (List.getElem?_eq_some_iff.mp h).1
theorem txs_app (a : List Str) (w : Str) : txs a ++ [.str w] = txs (a ++ [w]) := by simp [txs]
theorem w__law_words (hB : B.θ.length = o.length) (c : c__law_words K ss o Rt Xt) : Wf (r__law_words K W) 4 B ss o Rt := by
  obtain ⟨j, n, rfl, pu, n0, n1, h⟩ := c
  have jl := pu.lt
  unfold Wf r__law_words
  walk_at "st"
  refine s_seq (s_asg (e_lstO (a_nil ⟨Nat.zero_le _, g_name ?_⟩)))
  refine s_seq (s_range1 ?_)
  walk_at "e"
  refine ⟨by omega, by omega, fun i ρ' o' => i ≤ n.toNat ∧ Fj j o o' ∧ ∃ (ws : List Str) (u : Option Sl), ws.length = i ∧ (∀ w, w ∈ ws → isW w = true) ∧ o'[o.length]? = some (.lst (sls ws)) ∧ ρ' = [some (.ow j), some (.da (.int n)), some (.ow o.length), u], ⟨by omega, Fj.app pu _, [], _, rfl, (fun w hw => by cases hw), get_new, rfl⟩, ?_, ?_⟩
  · rintro i ρ' o' hi ⟨_, f1, ws, u, hl, hw, ho, rfl⟩
    refine g_name (s_drop (e_app2 (acc := txs ws) rfl ho (by simp [txs]; omega) ?_))
    walk_at "e"
    refine ⟨j, .ow o.length, ws, rfl, f1.pu, (fun z => by cases z; omega), ho, fun w o2 hw2 f2 => ?_⟩
    have ho2 := f2.at ho (by omega)
    walk_at "e"
    refine ⟨ho2, by omega, (f1.trans f2).set jl (Nat.le_refl _), ws ++ [w], _, by simp [hl], fun w' hw' => ?_, ?_, rfl⟩
    · rcases List.mem_append.mp hw' with q | q
      · exact hw _ q
      · rw [List.mem_singleton.mp q]; exact hw2
    · rw [List.getElem?_set_self (List.getElem?_eq_some_iff.mp ho2).1, txs_app]
  · rintro ρ' o' ⟨_, f1, ws, u, hl, hw, ho, rfl⟩
    refine s_ret (e_frz (e_var rfl ?_))
    exact ⟨o.length, _, _, rfl, by omega, ho, .lst _, h ws _ hw hl (f1.set jl (Nat.le_refl _))⟩
theorem w__law_sides (hB : B.θ.length = o.length) (c : c__law_sides K ss o Rt Xt) : Wf (r__law_sides K W) 6 B ss o Rt := by
  obtain ⟨j, l, rfl, pu, ll, h⟩ := c
  have jl := pu.lt
  unfold Wf r__law_sides
  walk_at "st"
  refine s_seq (s_asg (e_lstO (a_nil ⟨Nat.zero_le _, g_name ?_⟩)))
  refine s_seq (s_asg (e_lstO (a_nil ⟨Nat.zero_le _, g_name ?_⟩)))
  rw [List.append_assoc]
  refine s_seq (s_for ?_)
  walk_at "e"
  have tl : (txs l).length = l.length := by simp [txs]
  refine ⟨fun i ρ' o' => i ≤ l.length ∧ Fj j o o' ∧ ∃ (yes no : List Str) (u w : Option Sl), yes.length ≤ i ∧ no.length ≤ i ∧ o'[o.length]? = some (.lst (sls yes)) ∧ o'[o.length + 1]? = some (.lst (sls no)) ∧ ρ' = [some (.ow j), some (.da (.lst (txs l))), some (.ow o.length), some (.ow (o.length + 1)), u, w],
    ⟨by omega, Fj.app pu _, [], [], _, _, Nat.le_refl _, Nat.le_refl _, get_two, get_two', by rw [List.length_append]; rfl⟩, ?_, ?_⟩
  · rintro i d ρ' o' hd ⟨_, f1, yes, no, u, w, y1, y2, hy, hn, rfl⟩
    have hi := (List.getElem?_eq_some_iff.mp hd).1
    unfold txs at hd
    rw [List.getElem?_map] at hd
    obtain ⟨m, hm, rfl⟩ := Option.map_eq_some_iff.mp hd
    rw [tl] at hi
    walk_at "e"
    refine draw_in (by decide) (by decide) f1.pu fun r o2 r0 r1 f2 => ?_
    have f12 := f1.trans f2
    have hy2 := f2.at hy (by omega)
    have hn2 := f2.at hn (by omega)
    refine g_name ?_
    refine s_cut (fun ρ2 o3 => Fj j o o3 ∧ ∃ (yes no : List Str), yes.length ≤ i + 1 ∧ no.length ≤ i ∧ o3[o.length]? = some (.lst (sls yes)) ∧ o3[o.length + 1]? = some (.lst (sls no)) ∧ ρ2 = [some (.ow j), some (.da (.lst (txs l))), some (.ow o.length), some (.ow (o.length + 1)), some (.da (.str m)), some (.da (.int r))]) ?_ ?_
    · walk_at "e"
      refine ite_dec (fun h1 => ?_) fun h1 => ?_
      · refine s_drop (e_app (acc := txs yes) rfl hy2 (by simp [txs]; omega) ?_)
        walk_at "e"
        refine ⟨rfl, f12.set jl (Nat.le_refl _), yes ++ [m], no, by simp; omega, by omega, ?_, ?_, rfl⟩
        · rw [List.getElem?_set_self (List.getElem?_eq_some_iff.mp hy2).1, txs_app]
        · rw [List.getElem?_set_ne (by omega)]; exact hn2
      · walk_at "e"
        exact ⟨f12, yes, no, by omega, by omega, hy2, hn2, rfl⟩
    · rintro ρ2 o3 ⟨f3, yes, no, y1, y2, hy, hn, rfl⟩
      walk_at "e"
      refine ite_dec (fun h1 => ?_) fun h1 => ?_
      · refine s_drop (e_app (acc := txs no) rfl hn (by simp [txs]; omega) ?_)
        walk_at "e"
        refine ⟨rfl, by omega, f3.set jl (by omega), yes, no ++ [m], _, _, by omega, by simp; omega, ?_, ?_, rfl⟩
        · rw [List.getElem?_set_ne (by omega)]; exact hy
        · rw [List.getElem?_set_self (List.getElem?_eq_some_iff.mp hn).1, txs_app]
      · walk_at "e"
        exact ⟨by omega, f3, yes, no, _, _, by omega, by omega, hy, hn, rfl⟩
  · rintro ρ' o' ⟨_, f1, yes, no, u, w, y1, y2, hy, hn, rfl⟩
    refine s_frz 2 (j := o.length) rfl (by omega) hy (.lst _) ?_
    refine s_frz 3 (j := o.length + 1) rfl (by omega) (by rw [List.getElem?_set_ne (by omega)]; exact hn) (.lst _) ?_
    walk_at "e"
    rw [tl] at y1 y2
    exact h yes no _ y1 y2 ((f1.set jl (Nat.le_refl _)).set jl (by omega))
theorem keyStr (s : Str) : keyD (.inr s) = .str s := rfl
theorem look_get {l : List (Key × D)} {s : Str} {i : Int} (h : look l s = some i) : getK l (.inr s) = some (.int i) := by
  unfold look at h
  split at h
  · rename_i j e
    cases h
    exact e
  · cases h
theorem at0 {α : Type} {x : α} {xs : List α} : atI (x :: xs) 0 = some x := by
  simp [atI, ixN]
theorem at1 {α : Type} {x y : α} {xs : List α} : atI (x :: y :: xs) 1 = some y := by
  unfold atI ixN
  rw [if_pos (by decide), if_pos (by simp only [List.length_cons]; omega)]
  rfl
theorem at2 {α : Type} {x y z : α} {xs : List α} : atI (x :: y :: z :: xs) 2 = some z := by
  unfold atI ixN
  rw [if_pos (by decide), if_pos (by simp only [List.length_cons]; omega)]
  rfl
theorem e_low {ρ : R} {row : List D} {l : List (Key × D)} {z : Int} {c : Option Str} {P : Sl → O → Prop} (h1 : ρ[1]? = some (some (.da (.dic l)))) (h2 : ρ[2]? = some (some (.da (.tup row)))) (hz : atI row z = some (optS c)) (hc : Has (look l) c) (p : P (.da (.int (c.elim 0 fun s => (look l s).getD 0))) o) :
    AE B (tIf (tTest (tOp rIsA (tOp (rIxA K) (tVar 2) (tC (.int z))) (tC .non))) (tC (.int 0)) (tOp (rIxA K) (tVar 1) (tOp (rIxA K) (tVar 2) (tC (.int z))))) ρ o P := by
  refine e_if (t_test (e_op (e_op (e_var h2 (e_int (o_ixT hz (e_non ?_)))))))
  cases c with
  | none => exact o_isN ⟨_, rfl, ite_tt (e_int p)⟩
  | some s =>
    obtain ⟨i, hi⟩ := hc s rfl
    refine o_isS ⟨_, rfl, ite_ff (e_op (e_var h1 (e_op (e_var h2 (e_int (o_ixT hz ?_))))))⟩
    refine o_ixD (k := .inr s) (d := .int i) (look_get hi) ?_
    have e : ((some s).elim 0 fun s => (look l s).getD 0) = i := by
      show (look l s).getD 0 = i
      rw [hi]
      rfl
    rw [e] at p
    exact p
theorem w__law_keeps (c : c__law_keeps K ss o Rt Xt) : Wf (r__law_keeps K W) 5 B ss o Rt := by
  obtain ⟨rows, f, l, rfl, hrows, h⟩ := c
  unfold Wf r__law_keeps
  walk_at "st"
  refine s_seq (s_for ?_)
  walk_at "e"
  refine ⟨fun i ρ' o' => o' = o ∧ keepsR (look l) (rows.take i) = true ∧ ∃ u v w, ρ' = [some (.da (.lst (rows.map fun r => .tup ([optS r.1, optS r.2.1, .int r.2.2] ++ f r)))), some (.da (.dic l)), u, v, w], ⟨rfl, rfl, _, _, _, rfl⟩, ?_, ?_⟩
  · rintro i d ρ' o' hd ⟨rfl, hk, u, v, w, rfl⟩
    rw [List.getElem?_map] at hd
    obtain ⟨⟨a, b, n⟩, hm, rfl⟩ := Option.map_eq_some_iff.mp hd
    obtain ⟨ha, hb⟩ := hrows _ (List.mem_of_getElem? hm)
    refine g_name (s_seq (s_asg (e_low (c := a) rfl rfl at0 ha (g_name ?_))))
    refine s_seq (s_asg (e_low (c := b) rfl rfl at1 hb (g_name ?_)))
    have stepT : ∀ (x y : Int), (a.elim 0 fun s => ((look l) s).getD 0) = x → (b.elim 0 fun s => ((look l) s).getD 0) = y → WS B (tIfS (tTest (tOp rGtA (tVar 3) (tOp rAddA (tVar 4) (tOp (rIxA K) (tVar 2) (tC (.int 2)))))) (tRet (tC (.bl false))) tNext)
        { nx := fun ρ2 o2 => o2 = o' ∧ keepsR (look l) (rows.take (i + 1)) = true ∧ ∃ u v w, ρ2 = [some (.da (.lst (rows.map fun r => .tup ([optS r.1, optS r.2.1, .int r.2.2] ++ f r)))), some (.da (.dic l)), u, v, w], rt := Rt }
        [some (.da (.lst (rows.map fun r => .tup ([optS r.1, optS r.2.1, .int r.2.2] ++ f r)))), some (.da (.dic l)), some (.da (.tup ([optS a, optS b, .int n] ++ f (a, b, n)))), some (.da (.int x)), some (.da (.int y))] o' := by
      intro x y ex ey
      walk_at "e"
      refine o_ixT (d := .int n) at2 ?_
      walk_at "e"
      have hall : keepsR (look l) rows = true → ¬ (y + n < x) := fun q => by
        have q2 := List.all_eq_true.mp q _ (List.mem_of_getElem? hm)
        dsimp only at q2
        rw [ex, ey] at q2
        simpa using q2
      refine ite_dec (fun h1 => ?_) fun h1 => ?_
      · walk_at "e"
        cases hq : keepsR (look l) rows with
        | true => exact absurd h1 (hall hq)
        | false => rw [hq] at h; exact h
      · walk_at "e"
        refine ⟨rfl, ?_, _, _, _, rfl⟩
        unfold keepsR at hk ⊢
        rw [List.take_add_one, hm, List.all_append, hk]
        show (true && (!decide (_ + n < _) && true)) = true
        dsimp only
        rw [ex, ey, decide_eq_false h1]
        rfl
    exact (stepT _ _ rfl rfl).mono (fun _ _ q => q) (fun _ _ q => q) (fun _ _ q => q.elim) (fun _ _ q => q.elim)
  · rintro ρ' o' ⟨rfl, hk, u, v, w, rfl⟩
    rw [List.length_map, List.take_length] at hk
    rw [hk] at h
    walk_at "e"
    exact h
theorem cat_in2 {n : Str} {t : Int} {P : Sl → O → Prop} {X : Addr → List (Str × D) → O → Prop} (h1 : n.length ≤ 1000) (h2 : 0 ≤ t) (h3 : t ≤ 1000) (p : P (.da (.str (atM n t))) o) : c__law_at K [.da (.str n), .da (.int t)] o P X := ⟨n, t, rfl, h1, h2, h3, p⟩
theorem ex3 {x y z : Sl} {Q : Sl → Sl → Sl → Prop} (h : Q x y z) : ∃ x' y' z', [x, y, z] = [x', y', z'] ∧ Q x' y' z' := ⟨x, y, z, rfl, h⟩
end K03
end AB

set_option Elab.async false
set_option linter.all false
set_option maxRecDepth 100000
set_option maxHeartbeats 4000000
set_option autoImplicit false
namespace AB
open PySem L2 PySem.Spec PyProof.Rows He
namespace K03
local macro_rules | `(tactic| walk_at "e") => `(tactic| repeat' (first
  | (with_reducible refine s_seq ?_) | (with_reducible refine s_if ?_) | (with_reducible refine s_drop ?_) | (with_reducible refine s_ret ?_) | (with_reducible refine s_next ?_) | (with_reducible refine s_asg ?_)
  | (with_reducible refine g_name ?_)
  | (with_reducible refine t_test ?_) | (with_reducible refine t_B ?_) | (with_reducible refine t_or ?_) | (with_reducible refine t_and ?_) | (with_reducible refine t_not ?_)
  | ((with_reducible apply e_var); rfl) | (with_reducible refine e_int ?_) | (with_reducible refine e_str ?_) | (with_reducible refine e_bl ?_) | (with_reducible refine e_non ?_)
  | (with_reducible refine e_raw ?_) | (with_reducible refine ite_tt ?_) | (with_reducible refine ite_ff ?_) | (with_reducible refine ite_ntt ?_) | (with_reducible refine ite_nff ?_) | (with_reducible refine n_isiS ?_) | (with_reducible refine n_isiL ?_) | (with_reducible refine n_isiT ?_)
  | (with_reducible refine e_op ?_) | (with_reducible refine e_un ?_) | (with_reducible refine e_cb ?_) | (with_reducible refine e_callA ?_) | (with_reducible refine e_andV ?_) | (with_reducible refine e_if ?_)
  | (with_reducible refine a_cons ?_) | (with_reducible refine a_nil ?_)
  | (with_reducible refine o_gt ?_) | (with_reducible refine o_lt ?_) | (with_reducible refine o_le ?_) | (with_reducible refine o_ge ?_) | (with_reducible refine o_add ?_) | (with_reducible refine o_sub ?_) | (with_reducible refine o_neg ?_)
  | (with_reducible refine e_tup ?_) | (with_reducible refine e_lst ?_) | (with_reducible refine exd0 ?_) | (with_reducible refine exd1 ?_) | (with_reducible refine exd2 ?_) | (with_reducible refine exd3 ?_) | (with_reducible refine exd4 ?_) | (with_reducible refine exd5 ?_) | (with_reducible refine exd6 ?_)
  | (with_reducible refine o_isNotI ?_) | (with_reducible refine o_isNotN ?_) | (with_reducible refine o_isNotS ?_) | (with_reducible refine o_isI ?_) | (with_reducible refine o_isN ?_) | (with_reducible refine o_isS ?_) | (with_reducible refine o_isT ?_)
  | (with_reducible refine t_yes ?_) | (with_reducible refine gw_name (by decide) ?_)
  | (with_reducible refine s_par ?_) | (with_reducible refine ex2 ?_) | (with_reducible refine o_eqI ?_) | (with_reducible refine o_neI ?_) | (with_reducible refine o_ixL (by assumption) (by assumption) ?_)
  | (with_reducible refine e_sl ?_) | (with_reducible refine l_none ?_) | (with_reducible refine l_some ?_)
  | (with_reducible refine n_list (by assumption) ?_)
  | (with_reducible refine cat_in2 (by first | assumption | omega) (by omega) (by omega) ?_) | (with_reducible refine s_par3 ?_) | (with_reducible refine ex3 ?_)
  | (with_reducible refine cat_in (by first | assumption | omega) (by omega) (by omega) ?_)
  | (with_reducible refine ite_dec (fun h => absurd h (by decide)) (fun _ => ?_)) | (with_reducible refine ite_dec (fun _ => ?_) (fun h => absurd (by decide) h))
  | (with_reducible refine Exists.intro _ (And.intro rfl ?_))))
local macro_rules | `(tactic| walk_at "st") => `(tactic| simp only [List.map_cons, List.map_nil, List.length_cons, List.length_nil, Nat.reduceAdd, Nat.reduceSub, List.replicate, List.cons_append, List.nil_append])
variable {K : PySem.W.Frag} {B : Base} {W : WX} {ss : List Sl} {o : O} {Rt : Sl → O → Prop} {Xt : Addr → List (Str × D) → O → Prop}
theorem w__law_span (c : c__law_span K ss o Rt Xt) : Wf (r__law_span K W) 3 B ss o Rt := by
  obtain ⟨j, rfl, pu, h⟩ := c
  unfold Wf r__law_span
  walk_at "st"
  walk_at "e"
  refine draw_in (by decide) (by decide) pu fun r1 o1 a0 a1 f1 => ?_
  walk_at "e"
  refine draw_in (by decide) (by decide) f1.pu fun r2 o2 b0 b1 f2 => ?_
  walk_at "e"
  refine ite_dec (fun h1 => ?_) fun h1 => ?_
  · walk_at "e"
    exact h _ _ _ a0 (by omega) (by omega) (f1.trans f2)
  · walk_at "e"
    refine draw_in (by decide) (by decide) f2.pu fun r3 o3 c0 c1 f3 => ?_
    walk_at "e"
    exact h _ _ _ a0 (by omega) (by omega) ((f1.trans f2).trans f3)
theorem w__law_sided (c : c__law_sided K ss o Rt Xt) : Wf (r__law_sided K W) 3 B ss o Rt := by
  obtain ⟨rows, yes, no, rfl, hl, h⟩ := c
  unfold Wf r__law_sided
  walk_at "st"
  refine s_ret (e_lc ?_)
  walk_at "e"
  refine ⟨fun i acc o' => o' = o ∧ i ≤ rows.length ∧ acc = (rows.take i).map (side yes no), ⟨rfl, by omega, rfl⟩, ?_, ?_, ?_⟩
  · rintro i acc o' ⟨rfl, hi, rfl⟩
    rw [List.length_map, List.length_take]
    omega
  · rintro i d acc o' hd ⟨rfl, hi, rfl⟩
    rw [List.getElem?_map] at hd
    obtain ⟨⟨a, b, n⟩, hm, rfl⟩ := Option.map_eq_some_iff.mp hd
    have hi2 := (List.getElem?_eq_some_iff.mp hm).1
    walk_at "e"
    unfold side3
    refine o_ixT at0 ?_
    walk_at "e"
    refine o_ixT at1 ?_
    walk_at "e"
    refine o_ixT at2 ?_
    walk_at "e"
    refine o_ix at0 ?_
    walk_at "e"
    refine o_ix at1 ?_
    walk_at "e"
    refine ⟨rfl, by omega, ?_⟩
    rw [List.take_add_one, hm, List.map_append]
    rfl
  · rintro acc o' ⟨rfl, hi, rfl⟩
    rw [List.length_map, List.take_length]
    exact h
/-! ### dicts -/
def putD (l : List (Key × D)) (k : Key) (d : D) : List (Key × D) := if (l.any fun kv => decide (kv.1 = k)) = true then l.map (fun kv => if kv.1 = k then (kv.1, d) else kv) else l ++ [(k, d)]
theorem putS_dsl (l : List (Key × D)) (k : Key) (d : D) : putS (dsl l) k (.da d) = dsl (putD l k d) := by
  unfold putS putD dsl
  rw [List.any_map]
  have e : ((fun kv : Key × Sl => decide (kv.1 = k)) ∘ fun p : Key × D => (p.1, Sl.da p.2)) = fun kv : Key × D => decide (kv.1 = k) := rfl
  rw [e]
  split
  · rw [List.map_map, List.map_map]
    refine List.map_congr_left fun p _ => ?_
    show (if p.1 = k then (p.1, Sl.da d) else (p.1, Sl.da p.2)) = ((if p.1 = k then (p.1, d) else p).1, Sl.da (if p.1 = k then (p.1, d) else p).2)
    split <;> rfl
  · rw [List.map_append]
    rfl
theorem putD_len (l : List (Key × D)) (k : Key) (d : D) : (putD l k d).length ≤ l.length + 1 := by
  unfold putD
  split <;> simp
theorem getK_map (k k' : Key) (d : D) : ∀ l : List (Key × D), getK (l.map fun kv => if kv.1 = k then (kv.1, d) else kv) k' = if k = k' then (if (l.any fun kv => decide (kv.1 = k)) = true then some d else none) else getK l k'
  | [] => by simp [getK]
  | (a, x) :: r => by
    have ih := getK_map k k' d r
    unfold getK at ih ⊢
    rw [List.map_cons, List.find?_cons, List.any_cons, List.find?_cons]
    by_cases h1 : a = k
    · subst h1
      by_cases h2 : a = k'
      · subst h2
        simp
      · simp only [h2, if_true, if_false, decide_false] at ih ⊢
        exact ih
    · by_cases h2 : k = k'
      · subst h2
        simp only [h1, if_false, decide_false, Bool.false_or, if_true] at ih ⊢
        exact ih
      · by_cases h3 : a = k'
        · subst h3
          simp [h1, h2]
        · simp only [h1, h2, h3, if_false, decide_false] at ih ⊢
          exact ih
theorem getK_none {k : Key} : ∀ {l : List (Key × D)}, (l.any fun kv => decide (kv.1 = k)) = false → getK l k = none
  | [], _ => rfl
  | (a, x) :: r, h => by
    rw [List.any_cons] at h
    obtain ⟨h1, h2⟩ := Bool.or_eq_false_iff.mp h
    have ih := getK_none h2
    unfold getK at ih ⊢
    rw [List.find?_cons]
    dsimp only at h1 ⊢
    rw [h1]
    exact ih
theorem getK_put (l : List (Key × D)) (k k' : Key) (d : D) : getK (putD l k d) k' = if k = k' then some d else getK l k' := by
  unfold putD
  cases h : l.any fun kv => decide (kv.1 = k) with
  | true =>
    rw [if_pos rfl, getK_map, h]
    rfl
  | false =>
    rw [if_neg (by decide)]
    have hn := getK_none h
    unfold getK at hn ⊢
    rw [List.find?_append]
    by_cases h2 : k = k'
    · subst h2
      cases q : l.find? fun kv => decide (kv.1 = k) with
      | none => simp
      | some p => rw [q] at hn; cases hn
    · cases q : l.find? fun kv => decide (kv.1 = k') with
      | none => simp [h2]
      | some p => simp [h2]
theorem look_put (l : List (Key × D)) (s s' : Str) (v : Int) : look (putD l (.inr s) (.int v)) s' = if s = s' then some v else look l s' := by
  unfold look
  rw [getK_put]
  by_cases h : s = s'
  · subst h
    rw [if_pos rfl, if_pos rfl]
  · rw [if_neg (fun z => h (Sum.inr.inj z)), if_neg h]
theorem VD.put {l : List (Key × D)} {M v : Int} (h : VD l M) (h0 : 0 ≤ v) (h1 : v ≤ M) (s : Str) : VD (putD l (.inr s) (.int v)) M := fun s' i e => by
  rw [look_put] at e
  split at e
  · cases e; exact ⟨h0, h1⟩
  · exact h s' i e
theorem VD.mono {l : List (Key × D)} {M M' : Int} (h : VD l M) (hm : M ≤ M') : VD l M' := fun s i e => ⟨(h s i e).1, by have := (h s i e).2; omega⟩
theorem some_put {l : List (Key × D)} {s s' : Str} {v : Int} (h : ∃ i, look l s' = some i) : ∃ i, look (putD l (.inr s) (.int v)) s' = some i := by
  rw [look_put]
  split
  · exact ⟨_, rfl⟩
  · exact h
theorem size1000 {n : Nat} (h : n ≤ 100000) : n < sizeLine := by
  rw [sizeLine_eq]
  omega
theorem dsl_len (l : List (Key × D)) : (dsl l).length = l.length := by simp [dsl]
theorem w__law_counts (c : c__law_counts K ss o Rt Xt) : Wf (r__law_counts K W) 9 B ss o Rt := by
  obtain ⟨j, xn, names, first, last, rfl, pu, hxj, hn, nl, nlen, h0, h1, h2, h⟩ := c
  have jl := pu.lt
  unfold Wf r__law_counts
  walk_at "st"
  refine s_seq (s_asg (e_dnew (g_name ?_)))
  have f0 : Fj j o (o ++ [.dic []]) := Fj.app pu _
  refine s_seq (s_forL ?_)
  walk_at "e"
  refine ⟨sls names, LL.fj hn hxj f0, fun i ρ' o' => i ≤ names.length ∧ Fj j o o' ∧ ∃ (l : List (Key × D)) (u v w : Option Sl), o'[o.length]? = some (.dic (dsl l)) ∧ l.length ≤ 25 * i ∧ VD l 100 ∧ (∀ n, n ∈ names.take i → Keys l n first last) ∧
    ρ' = [some (.ow j), some xn, some (.da (.int first)), some (.da (.int last)), some (.da (.int 2)), some (.ow o.length), u, v, w], ⟨by omega, f0, [], _, _, _, get_new, by simp, (fun s i e => by cases e), (fun n hn => by simp at hn), rfl⟩, ?_, ?_, ?_⟩
  · rintro i ρ' o' _ ⟨_, f1, _⟩
    exact LL.fj hn hxj f1
  · rintro i s ρ' o' hs ⟨_, f1, l, u, v, w, hl, ll, vd, ks, rfl⟩
    unfold sls txs at hs
    rw [List.map_map, List.getElem?_map] at hs
    obtain ⟨m, hm, rfl⟩ := Option.map_eq_some_iff.mp hs
    have hi := (List.getElem?_eq_some_iff.mp hm).1
    have ml := nlen m (List.mem_of_getElem? hm)
    refine g_name ?_
    refine s_seq (s_asg (e_int (g_name ?_)))
    refine s_range2 ?_
    walk_at "e"
    refine ⟨first, last + 1, rfl, by omega, fun k ρ' o' => k ≤ 25 ∧ Fj j o o' ∧ ∃ (l : List (Key × D)) (cnt : Int) (w : Option Sl), o'[o.length]? = some (.dic (dsl l)) ∧ l.length ≤ 25 * i + k ∧ VD l 100 ∧ 0 ≤ cnt ∧ cnt ≤ 2 * k ∧ (∀ n, n ∈ names.take i → Keys l n first last) ∧ (∀ t, first ≤ t → t < first + k → ∃ v, look l (atM m t) = some v) ∧
      ρ' = [some (.ow j), some xn, some (.da (.int first)), some (.da (.int last)), some (.da (.int 2)), some (.ow o.length), some (.da (.str m)), some (.da (.int cnt)), w], ⟨by omega, f1, l, 0, _, hl, by omega, vd, by omega, by omega, ks, (fun t a b => by omega), rfl⟩, ?_, ?_⟩
    · rintro k ρ' o' hk ⟨_, f1, l, cnt, w, hl, ll, vd, c0, c1, ks, kt, rfl⟩
      have hk' : (k : Int) ≤ last - first := by omega
      walk_at "e"
      refine draw_in (by decide) (by decide) f1.pu fun r o2 r0 r1 f2 => ?_
      walk_at "e"
      refine s_dput (tv := tC .non) ?_
      walk_at "e"
      refine ⟨o.length, dsl l, .inr (atM m (first + k)), rfl, rfl, f2.at hl (by omega), size1000 (by rw [dsl_len]; omega), ?_⟩
      have f12 := f1.trans f2
      refine ⟨by omega, f12.set jl (Nat.le_refl _), putD l (.inr (atM m (first + k))) (.int (cnt + r)), cnt + r, _, ?_, ?_, vd.put (by omega) (by omega) _, by omega, by omega, ?_, ?_, rfl⟩
      · rw [List.getElem?_set_self (by have := f12.len; have := (List.getElem?_eq_some_iff.mp (f2.at hl (by omega))).1; omega), putS_dsl]
      · have := putD_len l (.inr (atM m (first + k))) (.int (cnt + r))
        omega
      · exact fun n hn t a b => some_put (ks n hn t a b)
      · intro t a b
        by_cases ht : t = first + k
        · subst ht
          exact ⟨_, by rw [look_put, if_pos rfl]⟩
        · exact some_put (kt t a (by omega))
    · rintro ρ' o' ⟨_, f1, l, cnt, w, hl, ll, vd, c0, c1, ks, kt, rfl⟩
      refine ⟨by omega, f1, l, _, _, _, hl, by omega, vd, fun n hn => ?_, rfl⟩
      rw [List.take_add_one, hm] at hn
      rcases List.mem_append.mp hn with q | q
      · exact ks n q
      · have e : n = m := by simpa using q
        subst e
        exact fun t a b => kt t a (by omega)
  · rintro ρ' o' ⟨_, f1, l, u, v, w, hl, ll, vd, ks, rfl⟩
    have e : (sls names).length = names.length := by simp [sls, txs]
    rw [e, List.take_length] at ks
    rw [e] at ll
    walk_at "e"
    exact h l _ _ f1 (Nat.le_refl _) hl (by omega) vd ks
end K03
end AB

set_option Elab.async false
set_option linter.all false
set_option maxRecDepth 100000
set_option maxHeartbeats 4000000
set_option autoImplicit false
namespace AB
open PySem L2 PySem.Spec PyProof.Rows He
namespace K03
local macro_rules | `(tactic| walk_at "e") => `(tactic| repeat' (first
  | (with_reducible refine s_seq ?_) | (with_reducible refine s_if ?_) | (with_reducible refine s_drop ?_) | (with_reducible refine s_ret ?_) | (with_reducible refine s_next ?_) | (with_reducible refine s_asg ?_)
  | (with_reducible refine g_name ?_)
  | (with_reducible refine t_test ?_) | (with_reducible refine t_B ?_) | (with_reducible refine t_or ?_) | (with_reducible refine t_and ?_) | (with_reducible refine t_not ?_)
  | ((with_reducible apply e_var); rfl) | (with_reducible refine e_int ?_) | (with_reducible refine e_str ?_) | (with_reducible refine e_bl ?_) | (with_reducible refine e_non ?_)
  | (with_reducible refine e_raw ?_) | (with_reducible refine ite_tt ?_) | (with_reducible refine ite_ff ?_) | (with_reducible refine ite_ntt ?_) | (with_reducible refine ite_nff ?_) | (with_reducible refine n_isiS ?_) | (with_reducible refine n_isiL ?_) | (with_reducible refine n_isiT ?_)
  | (with_reducible refine e_op ?_) | (with_reducible refine e_un ?_) | (with_reducible refine e_cb ?_) | (with_reducible refine e_callA ?_) | (with_reducible refine e_andV ?_) | (with_reducible refine e_if ?_)
  | (with_reducible refine a_cons ?_) | (with_reducible refine a_nil ?_)
  | (with_reducible refine o_gt ?_) | (with_reducible refine o_lt ?_) | (with_reducible refine o_le ?_) | (with_reducible refine o_ge ?_) | (with_reducible refine o_add ?_) | (with_reducible refine o_sub ?_) | (with_reducible refine o_neg ?_)
  | (with_reducible refine e_tup ?_) | (with_reducible refine e_lst ?_) | (with_reducible refine exd0 ?_) | (with_reducible refine exd1 ?_) | (with_reducible refine exd2 ?_) | (with_reducible refine exd3 ?_) | (with_reducible refine exd4 ?_) | (with_reducible refine exd5 ?_) | (with_reducible refine exd6 ?_)
  | (with_reducible refine o_isNotI ?_) | (with_reducible refine o_isNotN ?_) | (with_reducible refine o_isNotS ?_) | (with_reducible refine o_isI ?_) | (with_reducible refine o_isN ?_) | (with_reducible refine o_isS ?_) | (with_reducible refine o_isT ?_)
  | (with_reducible refine t_yes ?_) | (with_reducible refine gw_name (by decide) ?_)
  | (with_reducible refine s_par ?_) | (with_reducible refine ex2 ?_) | (with_reducible refine o_eqI ?_) | (with_reducible refine o_neI ?_) | (with_reducible refine o_ixL (by assumption) (by assumption) ?_)
  | (with_reducible refine e_sl ?_) | (with_reducible refine l_none ?_) | (with_reducible refine l_some ?_)
  | (with_reducible refine n_list (by assumption) ?_)
  | (with_reducible refine cat_in2 (by first | assumption | omega) (by omega) (by omega) ?_) | (with_reducible refine s_par3 ?_) | (with_reducible refine ex3 ?_)
  | (with_reducible refine cat_in (by first | assumption | omega) (by omega) (by omega) ?_)
  | (with_reducible refine ite_dec (fun h => absurd h (by decide)) (fun _ => ?_)) | (with_reducible refine ite_dec (fun _ => ?_) (fun h => absurd (by decide) h))
  | (with_reducible refine Exists.intro _ (And.intro rfl ?_))))
local macro_rules | `(tactic| walk_at "st") => `(tactic| simp only [List.map_cons, List.map_nil, List.length_cons, List.length_nil, Nat.reduceAdd, Nat.reduceSub, List.replicate, List.cons_append, List.nil_append])
variable {K : PySem.W.Frag} {B : Base} {W : WX} {ss : List Sl} {o : O} {Rt : Sl → O → Prop} {Xt : Addr → List (Str × D) → O → Prop}
theorem w__law_own (hB : B.θ.length = o.length) (c : c__law_own K ss o Rt Xt) : Wf (r__law_own K W) 12 B ss o Rt := by
  obtain ⟨kind, a, b, xn, first, last, xm, low, high, mn, rfl, k0, k5, la, lb, hn, ⟨⟨nm, hm, m0, m1, m2⟩, hlo, mn0⟩, h0, h1, h2, h⟩ := c
  unfold Wf r__law_own
  walk_at "st"
  have n0 : atI [Sl.da (.str a), Sl.da (.str b)] 0 = some (.da (.str a)) := rfl
  have n1 : atI [Sl.da (.str a), Sl.da (.str b)] 1 = some (.da (.str b)) := rfl
  refine s_seq (s_asg (e_lstO (a_nil ⟨Nat.zero_le _, g_name ?_⟩)))
  have hn' := hn.fp ⟨[.lst []], rfl⟩
  have hm' := hm.fp ⟨[.lst []], rfl⟩
  refine s_seq (s_par ?_)
  walk_at "e"
  refine s_range2 ?_
  walk_at "e"
  have hl : ∀ t, (fOwn kind a b first last low high mn t).length ≤ 2 := fun t => by
    unfold fOwn fStock fAfter fWithin fLoss fTurn
    cases low <;> cases high <;> (repeat' split) <;> simp
  refine ⟨first, last + 1, rfl, by omega, fun k ρ' o' => (∃ w, ρ' = [some (.da (.int kind)), some xn, some (.da (.int first)), some (.da (.int last)), some xm, some (.ow o.length), some (.da (.str a)), some (.da (.str b)), some (.da (optD low)), some (.da (optD high)), some (.da (.int mn)), w]) ∧
    o' = o ++ [.lst (((rowsU (fOwn kind a b first last low high mn) first k).map side3).map Sl.da)], ⟨⟨_, rfl⟩, rfl⟩, ?_, ?_⟩
  · rintro k ρ' o' hk ⟨⟨w, rfl⟩, rfl⟩
    have hk' : (k : Int) ≤ last - first := by omega
    have ll := rowsU_len (first := first) hl k
    have fl : ((rowsU (fOwn kind a b first last low high mn) first k).map side3).length ≤ 50 := by rw [List.length_map]; omega
    have hk6 : kind = 0 ∨ kind = 1 ∨ kind = 2 ∨ kind = 3 ∨ kind = 4 ∨ kind = 5 := by omega
    rcases hk6 with rfl | rfl | rfl | rfl | rfl | rfl
    · cases low with
      | none =>
        dsimp only [optD]
        cases high with
        | none =>
          dsimp only [optD]
          walk_at "e"
          exact ⟨⟨_, rfl⟩, row_none rfl⟩
        | some j =>
          dsimp only [optD]
          walk_at "e"
          refine e_app (acc := (rowsU (fOwn 0 a b first last none (some j) mn) first k).map side3) rfl get_new (by omega) ?_
          walk_at "e"
          refine ⟨rfl, ?_⟩
          walk_at "e"
          exact ⟨⟨_, rfl⟩, row_step rfl⟩
      | some i =>
        dsimp only [optD]
        walk_at "e"
        refine e_app (acc := (rowsU (fOwn 0 a b first last (some i) high mn) first k).map side3) rfl get_new (by omega) ?_
        walk_at "e"
        refine ⟨rfl, ?_⟩
        rw [set_new]
        cases high with
        | none =>
          dsimp only [optD]
          walk_at "e"
          refine ⟨⟨_, rfl⟩, ?_⟩
          rw [← set_new (u := .lst (((rowsU (fOwn 0 a b first last (some i) none mn) first k).map side3).map Sl.da))]
          exact row_step rfl
        | some j =>
          dsimp only [optD]
          walk_at "e"
          refine e_app (acc := (rowsU (fOwn 0 a b first last (some i) (some j) mn) first k).map side3 ++ [D.tup [.str (atM b (first + k)), .str (atM a (first + k)), .int (-i)]]) rfl get_new (by rw [List.length_append]; simp only [List.length_cons, List.length_nil]; omega) ?_
          walk_at "e"
          refine ⟨rfl, ?_⟩
          walk_at "e"
          refine ⟨⟨_, rfl⟩, ?_⟩
          rw [set_new, rowsU_succ]
          simp only [List.map_append, List.append_assoc]
          rfl
    · refine g_name ?_
      walk_at "e"
      refine e_app (acc := (rowsU (fOwn 1 a b first last low high mn) first k).map side3) rfl get_new (by omega) ?_
      walk_at "e"
      refine ite_dec (fun h3 => ?_) fun h3 => ?_
      · walk_at "e"
        refine ⟨rfl, ?_⟩
        walk_at "e"
        refine ⟨⟨_, rfl⟩, row_step ?_⟩
        show (fAfter a b first mn (first + k)).map side3 = _
        unfold fAfter
        rw [if_neg (by omega)]
        rfl
      · walk_at "e"
        refine ⟨rfl, ?_⟩
        walk_at "e"
        refine ⟨⟨_, rfl⟩, row_step ?_⟩
        show (fAfter a b first mn (first + k)).map side3 = _
        unfold fAfter
        rw [if_pos (by omega)]
        rfl
    · refine g_name ?_
      walk_at "e"
      refine ite_dec (fun h3 => ?_) fun h3 => ?_
      · walk_at "e"
        refine e_app (acc := (rowsU (fOwn 2 a b first last low high mn) first k).map side3) rfl get_new (by omega) ?_
        walk_at "e"
        refine ⟨rfl, ?_⟩
        walk_at "e"
        refine ⟨⟨_, rfl⟩, row_step ?_⟩
        show (fWithin a b last mn (first + k)).map side3 = _
        unfold fWithin
        rw [if_pos h3]
        rfl
      · walk_at "e"
        refine ⟨⟨_, rfl⟩, row_none ?_⟩
        show fWithin a b last mn (first + k) = _
        unfold fWithin
        rw [if_neg h3]
    · refine g_name ?_
      walk_at "e"
      refine ite_dec (fun h3 => ?_) fun h3 => ?_
      · walk_at "e"
        refine e_app (acc := (rowsU (fOwn 3 a b first last low high mn) first k).map side3) rfl get_new (by omega) ?_
        walk_at "e"
        refine ⟨rfl, ?_⟩
        walk_at "e"
        refine ⟨⟨_, rfl⟩, row_step ?_⟩
        show (if first + (k : Int) = last then [((none : Option Str), some (atM a (first + k)), -mn)] else []).map side3 = _
        rw [if_pos h3]
        rfl
      · walk_at "e"
        refine ⟨⟨_, rfl⟩, row_none ?_⟩
        show (if first + (k : Int) = last then [((none : Option Str), some (atM a (first + k)), -mn)] else []) = _
        rw [if_neg h3]
    · obtain ⟨lw, rfl⟩ := hlo rfl
      dsimp only [optD]
      refine g_name ?_
      walk_at "e"
      refine e_app (acc := (rowsU (fOwn 4 a b first last (some lw) high mn) first k).map side3) rfl get_new (by omega) ?_
      walk_at "e"
      refine ⟨rfl, ?_⟩
      walk_at "e"
      exact ⟨⟨_, rfl⟩, row_step rfl⟩
    · refine g_name ?_
      walk_at "e"
      refine e_app (acc := (rowsU (fOwn 5 a b first last low high mn) first k).map side3) rfl get_new (by omega) ?_
      walk_at "e"
      refine ⟨rfl, ?_⟩
      walk_at "e"
      exact ⟨⟨_, rfl⟩, row_step rfl⟩
  · rintro ρ' o' ⟨⟨w, rfl⟩, rfl⟩
    refine s_ret (e_frz (e_var rfl ?_))
    refine ⟨o.length, _, _, rfl, by omega, get_new, .lst _, ?_⟩
    rw [set_new]
    exact h _ ⟨_, rfl⟩
/-! ### meaning -/
def va (l : List (Key × D)) (a : Str) (t : Int) : Int := (look l (atM a t)).getD 0
theorem va_look {l : List (Key × D)} {a : Str} {first last t : Int} (k : Keys l a first last) (h1 : first ≤ t) (h2 : t ≤ last) : look l (atM a t) = some (va l a t) := by
  obtain ⟨i, hi⟩ := k t h1 h2
  unfold va
  rw [hi]
  rfl
def vs (l : List (Key × D)) (a : Str) (first : Int) (n : Nat) : List D := (List.range n).map fun (k : Nat) => D.int (va l a (first + (k : Int)))
theorem vs_succ (l : List (Key × D)) (a : Str) (first : Int) (n : Nat) : vs l a first (n + 1) = vs l a first n ++ [D.int (va l a (first + n))] := by
  unfold vs
  rw [List.range_succ, List.map_append]
  rfl
theorem vs_len (l : List (Key × D)) (a : Str) (first : Int) (n : Nat) : (vs l a first n).length = n := by simp [vs]
theorem vs_at {l : List (Key × D)} {a : Str} {first i : Int} {n : Nat} (h0 : 0 ≤ i) (h1 : i < n) : atI (vs l a first n) i = some (.int (va l a (first + i))) := by
  obtain ⟨k, rfl⟩ := Int.eq_ofNat_of_zero_le h0
  refine atI_of (j := k) ?_ ?_
  · unfold ixN
    rw [vs_len, if_pos h0, if_pos h1]
    rfl
  · unfold vs
    rw [List.getElem?_map, List.getElem?_range (by omega)]
    rfl
def okR (v : Str → Option Int) (r : Row3) : Bool := !decide ((r.2.1.elim 0 fun s => (v s).getD 0) + r.2.2 < (r.1.elim 0 fun s => (v s).getD 0))
theorem keeps_succ {v : Str → Option Int} {f : Int → List Row3} {first : Int} {n : Nat} : keepsR v (rowsU f first (n + 1)) = (keepsR v (rowsU f first n) && (f (first + n)).all (okR v)) := by
  rw [rowsU_succ]
  unfold keepsR
  rw [List.all_append]
  rfl
theorem keeps_all {v : Str → Option Int} {f : Int → List Row3} {first : Int} {i : Nat} : ∀ {n : Nat}, keepsR v (rowsU f first n) = true → i < n → (f (first + i)).all (okR v) = true
  | 0, _, h => by omega
  | n + 1, h, hi => by
    rw [keeps_succ, Bool.and_eq_true] at h
    by_cases e : i = n
    · subst e; exact h.2
    · exact keeps_all h.1 (by omega)
theorem rowsU_nil {α : Type} {f : Int → List α} {first : Int} : ∀ {n : Nat}, (∀ i : Nat, i < n → f (first + i) = []) → rowsU f first n = []
  | 0, _ => rfl
  | n + 1, h => by
    rw [rowsU_succ, h n (by omega), rowsU_nil fun i hi => h i (by omega)]
    rfl
theorem own3 {a b : Str} {first last : Int} {low high : Option Int} {mn : Int} (h : first ≤ last) : rowsU (fOwn 3 a b first last low high mn) first (many first last) = [(none, some (atM a last), -mn)] := by
  obtain ⟨n, hn⟩ : ∃ n : Nat, last = first + n := ⟨(last - first).toNat, by omega⟩
  subst hn
  have e : many first (first + n) = n + 1 := by unfold many; omega
  rw [e, rowsU_succ, rowsU_nil]
  · show [] ++ (if first + (n : Int) = first + n then [((none : Option Str), some (atM a (first + n)), -mn)] else []) = _
    rw [if_pos rfl]
    rfl
  · intro i hi
    show (if first + (i : Int) = first + n then [((none : Option Str), some (atM a (first + i)), -mn)] else []) = _
    rw [if_neg (by omega)]
theorem e_vals {ρ : R} {l : List (Key × D)} {a b : Str} {first last : Int} {xn : Sl} {z : Int} {w : Str} {P : Sl → O → Prop} (h0 : 0 ≤ first) (h1 : first ≤ last) (h2 : last ≤ 24) (wl : w.length ≤ 1000) (hk : Keys l w first last) (hz : atI [Sl.da (.str a), Sl.da (.str b)] z = some (.da (.str w)))
    (hn : LL o xn [.da (.str a), .da (.str b)]) (r1 : (wipeR ρ [11])[1]? = some (some xn)) (r5 : (wipeR ρ [11])[5]? = some (some (.da (.dic l)))) (r2 : ρ[2]? = some (some (.da (.int first)))) (r3 : ρ[3]? = some (some (.da (.int last)))) (hlen : ρ.length = 13)
    (p : P (.da (.lst (vs l w first (many first last)))) o) :
    AE B (tLc (iRng2 (tCons (tVar 2) (tCons (tOp rAddA (tVar 3) (tC (.int 1))) tNil))) (gName 11) tYes (tOp (rIxA K) (tVar 5) (tCallS (SpC (c__law_at K)) (WE W0) (tCons (tOp (rIxA K) (tVar 1) (tC (.int z))) (tCons (tVar 11) tNil)))) [11]) ρ o P := by
  refine e_lcR2 (a_cons (e_var r2 (a_cons (e_op (e_var r3 (e_int (o_add (a_nil ?_))))))))
  refine ⟨first, last + 1, rfl, by omega, fun k acc o' => o' = o ∧ k ≤ 25 ∧ acc = vs l w first k, ⟨rfl, by omega, rfl⟩, ?_, ?_, ?_⟩
  · rintro k acc o' ⟨rfl, hk, rfl⟩
    rw [vs_len]
    omega
  · rintro k acc o' hk' ⟨rfl, hk2, rfl⟩
    have kk : (k : Int) ≤ last - first := by omega
    refine gw_name (by decide) (t_yes (ite_tt ?_))
    have hwl : (wipeR ρ [11]).length = 13 := by simp [wipeR, hlen]
    have s5 : ((wipeR ρ [11]).set 11 (some (.da (.int (first + k)))))[5]? = some (some (.da (.dic l))) := by rw [List.getElem?_set_ne (by decide)]; exact r5
    have s1 : ((wipeR ρ [11]).set 11 (some (.da (.int (first + k)))))[1]? = some (some xn) := by rw [List.getElem?_set_ne (by decide)]; exact r1
    have s11 : ((wipeR ρ [11]).set 11 (some (.da (.int (first + k)))))[11]? = some (some (.da (.int (first + k)))) := List.getElem?_set_self (by omega)
    refine e_op (e_var s5 (e_callA (a_cons (e_op (e_var s1 (e_int (o_ixL hn hz ?_)))))))
    refine a_cons (e_var s11 (a_nil (cat_in2 wl (by omega) (by omega) ?_)))
    refine o_ixD (k := .inr (atM w (first + k))) (d := .int (va l w (first + k))) (look_get (va_look hk (by omega) (by omega))) ?_
    exact ⟨_, rfl, rfl, by omega, (vs_succ _ _ _ _).symm⟩
  · rintro acc o' ⟨rfl, _, rfl⟩
    exact p
theorem n_lenD {ds : List D} {P : Sl → O → Prop} (p : P (.da (.int ds.length)) o) : AN B (rLenA K) [.da (.lst ds)] o P := n_len (ss := ds.map Sl.da) rfl (by rw [List.length_map]; exact p)
theorem w__law_meaning (c : c__law_meaning K ss o Rt Xt) : Wf (r__law_meaning K W) 13 B ss o Rt := by
  obtain ⟨kind, a, b, xn, first, last, xm, low, high, mn, l, rfl, k0, k5, la, lb, hn, ⟨⟨nm, hm, m0, m1, m2⟩, hlo, mn0⟩, h0, h1, h2, ka, kb, h⟩ := c
  unfold Wf r__law_meaning
  walk_at "st"
  refine s_seq (s_asg (e_vals (w := a) h0 h1 h2 la ka rfl hn rfl rfl rfl rfl rfl (g_name ?_)))
  refine s_seq (s_asg (e_vals (w := b) h0 h1 h2 lb kb rfl hn rfl rfl rfl rfl rfl (g_name ?_)))
  walk_at "e"
  refine s_range1 ?_
  walk_at "e"
  refine n_lenD ?_
  walk_at "e"
  rw [vs_len]
  have hmany : many first last ≤ 25 := by unfold many; omega
  have hm1 : (many first last : Int) = last + 1 - first := by unfold many; omega
  refine ⟨by omega, by omega, fun k ρ' o' => o' = o ∧ (kind ≠ 3 → keepsR (look l) (rowsU (fOwn kind a b first last low high mn) first k) = true) ∧ ∃ u w, ρ' = [some (.da (.int kind)), some xn, some (.da (.int first)), some (.da (.int last)), some xm, some (.da (.dic l)), some (.da (.lst (vs l a first (many first last)))), some (.da (.lst (vs l b first (many first last)))), some (.da (optD low)), some (.da (optD high)), some (.da (.int mn)), u, w],
    ⟨rfl, fun _ => rfl, _, _, rfl⟩, ?_, ?_⟩
  · rintro k ρ' o' hk ⟨rfl, hkeep, u, w, rfl⟩
    rw [Int.toNat_natCast] at hk
    have kk : (k : Int) < many first last := by omega
    walk_at "e"
    refine o_ix (vs_at (by omega) kk) ?_
    walk_at "e"
    refine o_ix (vs_at (by omega) kk) ?_
    walk_at "e"
    -- what the end of a turn wants
    have bad : (fOwn kind a b first last low high mn (first + k)).all (okR (look l)) = false → Rt (.da (.bl false)) o' := fun q => by
      cases e : keepsR (look l) (ownR kind a b first last low high mn) with
      | false => rw [e] at h; exact h
      | true => rw [keeps_all e hk] at q; cases q
    have good : (fOwn kind a b first last low high mn (first + k)).all (okR (look l)) = true → (kind ≠ 3 → keepsR (look l) (rowsU (fOwn kind a b first last low high mn) first (k + 1)) = true) := fun q hne => by
      rw [keeps_succ, hkeep hne, q]
      rfl
    have hk6 : kind = 0 ∨ kind = 1 ∨ kind = 2 ∨ kind = 3 ∨ kind = 4 ∨ kind = 5 := by omega
    rcases hk6 with rfl | rfl | rfl | rfl | rfl | rfl
    · have x1 : ∀ i : Int, okR (look l) (some (atM b (first + k)), some (atM a (first + k)), -i) = !decide (va l a (first + k) - va l b (first + k) < i) := fun i => by
        show (!decide (va l a (first + k) + -i < va l b (first + k))) = _
        congr 1
        exact decide_eq_decide.mpr (by omega)
      have x2 : ∀ j : Int, okR (look l) (some (atM a (first + k)), some (atM b (first + k)), j) = !decide (j < va l a (first + k) - va l b (first + k)) := fun j => by
        show (!decide (va l b (first + k) + j < va l a (first + k))) = _
        congr 1
        exact decide_eq_decide.mpr (by omega)
      cases low with
      | none =>
        dsimp only [optD]
        cases high with
        | none =>
          dsimp only [optD]
          walk_at "e"
          exact ⟨rfl, good rfl, _, _, rfl⟩
        | some j =>
          dsimp only [optD]
          walk_at "e"
          have e0 : (fOwn 0 a b first last none (some j) mn (first + k)).all (okR (look l)) = !decide (j < va l a (first + k) - va l b (first + k)) := by
            rw [← x2]
            exact Bool.and_true _
          refine ite_dec (fun h3 => ?_) fun h3 => ?_
          · walk_at "e"
            exact bad (by rw [e0, decide_eq_true h3]; rfl)
          · walk_at "e"
            exact ⟨rfl, good (by rw [e0, decide_eq_false h3]; rfl), _, _, rfl⟩
      | some i =>
        dsimp only [optD]
        cases high with
        | none =>
          dsimp only [optD]
          walk_at "e"
          have e0 : (fOwn 0 a b first last (some i) none mn (first + k)).all (okR (look l)) = !decide (va l a (first + k) - va l b (first + k) < i) := by
            rw [← x1]
            exact Bool.and_true _
          refine ite_dec (fun h3 => ?_) fun h3 => ?_
          · walk_at "e"
            exact bad (by rw [e0, decide_eq_true h3]; rfl)
          · walk_at "e"
            exact ⟨rfl, good (by rw [e0, decide_eq_false h3]; rfl), _, _, rfl⟩
        | some j =>
          dsimp only [optD]
          walk_at "e"
          have e0 : (fOwn 0 a b first last (some i) (some j) mn (first + k)).all (okR (look l)) = (!decide (va l a (first + k) - va l b (first + k) < i) && !decide (j < va l a (first + k) - va l b (first + k))) := by
            rw [← x1, ← x2]
            show (_ && (_ && true)) = _
            rw [Bool.and_true]
          refine ite_dec (fun h3 => ?_) fun h3 => ?_
          · walk_at "e"
            exact bad (by rw [e0, decide_eq_true h3]; rfl)
          · walk_at "e"
            refine ite_dec (fun h4 => ?_) fun h4 => ?_
            · walk_at "e"
              exact bad (by rw [e0, decide_eq_true h4, Bool.not_true, Bool.and_false])
            · walk_at "e"
              exact ⟨rfl, good (by rw [e0, decide_eq_false h3, decide_eq_false h4]; rfl), _, _, rfl⟩
    · walk_at "e"
      refine o_ix (vs_at (by omega) kk) ?_
      walk_at "e"
      refine ite_dec (fun h3 => ?_) fun h3 => ?_
      · walk_at "e"
        refine o_ix (vs_at (by omega) (by omega)) ?_
        have e1 : first + ((k : Int) - mn) = first + k - mn := by omega
        rw [e1]
        have e0 : (fOwn 1 a b first last low high mn (first + k)).all (okR (look l)) = !decide (va l b (first + k - mn) < va l a (first + k)) := by
          show (fAfter a b first mn (first + k)).all (okR (look l)) = _
          unfold fAfter
          rw [if_neg (by omega)]
          show (!decide (va l b (first + k - mn) + 0 < va l a (first + k)) && true) = _
          rw [Int.add_zero, Bool.and_true]
        walk_at "e"
        refine ite_dec (fun h4 => ?_) fun h4 => ?_
        · walk_at "e"
          exact bad (by rw [e0, decide_eq_true h4]; rfl)
        · walk_at "e"
          exact ⟨rfl, good (by rw [e0, decide_eq_false h4]; rfl), _, _, rfl⟩
      · walk_at "e"
        have e0 : (fOwn 1 a b first last low high mn (first + k)).all (okR (look l)) = !decide (0 < va l a (first + k)) := by
          show (fAfter a b first mn (first + k)).all (okR (look l)) = _
          unfold fAfter
          rw [if_pos (by omega)]
          show (!decide (0 + 0 < va l a (first + k)) && true) = _
          rw [Int.add_zero, Bool.and_true]
        refine ite_dec (fun h4 => ?_) fun h4 => ?_
        · walk_at "e"
          exact bad (by rw [e0, decide_eq_true h4]; rfl)
        · walk_at "e"
          exact ⟨rfl, good (by rw [e0, decide_eq_false h4]; rfl), _, _, rfl⟩
    · walk_at "e"
      refine n_lenD ?_
      walk_at "e"
      rw [vs_len]
      refine ite_dec (fun h3 => ?_) fun h3 => ?_
      · walk_at "e"
        refine o_ix (vs_at (by omega) h3) ?_
        walk_at "e"
        refine o_ix (vs_at (by omega) kk) ?_
        have e1 : first + ((k : Int) + mn) = first + k + mn := by omega
        rw [e1]
        have e0 : (fOwn 2 a b first last low high mn (first + k)).all (okR (look l)) = !decide (va l b (first + k + mn) < va l a (first + k)) := by
          show (fWithin a b last mn (first + k)).all (okR (look l)) = _
          unfold fWithin
          rw [if_pos (by omega)]
          show (!decide (va l b (first + k + mn) + 0 < va l a (first + k)) && true) = _
          rw [Int.add_zero, Bool.and_true]
        walk_at "e"
        refine ite_dec (fun h4 => ?_) fun h4 => ?_
        · walk_at "e"
          exact bad (by rw [e0, decide_eq_true h4]; rfl)
        · walk_at "e"
          exact ⟨rfl, good (by rw [e0, decide_eq_false h4]; rfl), _, _, rfl⟩
      · walk_at "e"
        refine ⟨rfl, good ?_, _, _, rfl⟩
        show (fWithin a b last mn (first + k)).all (okR (look l)) = _
        unfold fWithin
        rw [if_neg (by omega)]
        rfl
    · walk_at "e"
      exact ⟨rfl, fun z => absurd rfl z, _, _, rfl⟩
    · obtain ⟨lw, rfl⟩ := hlo rfl
      dsimp only [optD]
      walk_at "e"
      have e0 : (fOwn 4 a b first last (some lw) high mn (first + k)).all (okR (look l)) = !decide (va l a (first + k) - va l b (first + k) - mn < lw) := by
        show (!decide (va l a (first + k) + (-lw - mn) < va l b (first + k)) && true) = _
        rw [Bool.and_true]
        congr 1
        exact decide_eq_decide.mpr (by omega)
      refine ite_dec (fun h4 => ?_) fun h4 => ?_
      · walk_at "e"
        exact bad (by rw [e0, decide_eq_true h4]; rfl)
      · walk_at "e"
        exact ⟨rfl, good (by rw [e0, decide_eq_false h4]; rfl), _, _, rfl⟩
    · walk_at "e"
      have e0 : (fOwn 5 a b first last low high mn (first + k)).all (okR (look l)) = !decide (mn < va l a (first + k) - va l b (first + k)) := by
        show (!decide (va l b (first + k) + mn < va l a (first + k)) && true) = _
        rw [Bool.and_true]
        congr 1
        exact decide_eq_decide.mpr (by omega)
      refine ite_dec (fun h4 => ?_) fun h4 => ?_
      · walk_at "e"
        exact bad (by rw [e0, decide_eq_true h4]; rfl)
      · walk_at "e"
        exact ⟨rfl, good (by rw [e0, decide_eq_false h4]; rfl), _, _, rfl⟩
  · rintro ρ' o' ⟨rfl, hkeep, u, w, rfl⟩
    rw [Int.toNat_natCast] at hkeep
    refine s_ret (e_orV (e_op (e_var rfl (e_int (o_neI ⟨_, rfl, ?_⟩)))))
    refine ite_ndec (fun h3 => ?_) fun h3 => ?_
    · have e : keepsR (look l) (ownR kind a b first last low high mn) = true := hkeep h3
      rw [e] at h
      exact h
    · subst h3
      walk_at "e"
      refine n_lenD ?_
      walk_at "e"
      rw [vs_len]
      refine o_ix (vs_at (by omega) (by omega)) ?_
      walk_at "e"
      have e1 : first + ((many first last : Int) - 1) = last := by omega
      rw [e1]
      have e : keepsR (look l) (ownR 3 a b first last low high mn) = decide (mn ≤ va l a last) := by
        unfold ownR
        rw [own3 h1]
        show (!decide (va l a last + -mn < 0) && true) = _
        rw [Bool.and_true, ← decide_not]
        exact decide_eq_decide.mpr (by omega)
      rw [e] at h
      exact h
end K03
end AB

set_option Elab.async false
set_option linter.all false
set_option maxRecDepth 100000
set_option maxHeartbeats 4000000
set_option autoImplicit false
namespace AB
open PySem L2 PySem.Spec PyProof.Rows He
namespace K03
local macro_rules | `(tactic| walk_at "e") => `(tactic| repeat' (first
  | (with_reducible refine s_seq ?_) | (with_reducible refine s_if ?_) | (with_reducible refine s_drop ?_) | (with_reducible refine s_ret ?_) | (with_reducible refine s_next ?_) | (with_reducible refine s_asg ?_)
  | (with_reducible refine g_name ?_)
  | (with_reducible refine t_test ?_) | (with_reducible refine t_B ?_) | (with_reducible refine t_or ?_) | (with_reducible refine t_and ?_) | (with_reducible refine t_not ?_)
  | ((with_reducible apply e_var); rfl) | (with_reducible refine e_int ?_) | (with_reducible refine e_str ?_) | (with_reducible refine e_bl ?_) | (with_reducible refine e_non ?_)
  | (with_reducible refine e_raw ?_) | (with_reducible refine ite_tt ?_) | (with_reducible refine ite_ff ?_) | (with_reducible refine ite_ntt ?_) | (with_reducible refine ite_nff ?_) | (with_reducible refine n_isiS ?_) | (with_reducible refine n_isiL ?_) | (with_reducible refine n_isiT ?_)
  | (with_reducible refine e_op ?_) | (with_reducible refine e_un ?_) | (with_reducible refine e_cb ?_) | (with_reducible refine e_callA ?_) | (with_reducible refine e_andV ?_) | (with_reducible refine e_if ?_)
  | (with_reducible refine a_cons ?_) | (with_reducible refine a_nil ?_)
  | (with_reducible refine o_gt ?_) | (with_reducible refine o_lt ?_) | (with_reducible refine o_le ?_) | (with_reducible refine o_ge ?_) | (with_reducible refine o_add ?_) | (with_reducible refine o_sub ?_) | (with_reducible refine o_neg ?_)
  | (with_reducible refine e_tup ?_) | (with_reducible refine e_lst ?_) | (with_reducible refine exd0 ?_) | (with_reducible refine exd1 ?_) | (with_reducible refine exd2 ?_) | (with_reducible refine exd3 ?_) | (with_reducible refine exd4 ?_) | (with_reducible refine exd5 ?_) | (with_reducible refine exd6 ?_)
  | (with_reducible refine o_isNotI ?_) | (with_reducible refine o_isNotN ?_) | (with_reducible refine o_isNotS ?_) | (with_reducible refine o_isI ?_) | (with_reducible refine o_isN ?_) | (with_reducible refine o_isS ?_) | (with_reducible refine o_isT ?_)
  | (with_reducible refine t_yes ?_) | (with_reducible refine gw_name (by decide) ?_)
  | (with_reducible refine s_par ?_) | (with_reducible refine ex2 ?_) | (with_reducible refine o_eqI ?_) | (with_reducible refine o_neI ?_) | (with_reducible refine o_ixL (by assumption) (by assumption) ?_)
  | (with_reducible refine e_sl ?_) | (with_reducible refine l_none ?_) | (with_reducible refine l_some ?_)
  | (with_reducible refine n_list (by assumption) ?_)
  | (with_reducible refine cat_in2 (by first | assumption | omega) (by omega) (by omega) ?_) | (with_reducible refine s_par3 ?_) | (with_reducible refine ex3 ?_)
  | (with_reducible refine cat_in (by first | assumption | omega) (by omega) (by omega) ?_)
  | (with_reducible refine ite_dec (fun h => absurd h (by decide)) (fun _ => ?_)) | (with_reducible refine ite_dec (fun _ => ?_) (fun h => absurd (by decide) h))
  | (with_reducible refine Exists.intro _ (And.intro rfl ?_))))
local macro_rules | `(tactic| walk_at "st") => `(tactic| simp only [List.map_cons, List.map_nil, List.length_cons, List.length_nil, Nat.reduceAdd, Nat.reduceSub, List.replicate, List.cons_append, List.nil_append])
variable {K : PySem.W.Frag} {B : Base} {W : WX} {ss : List Sl} {o : O} {Rt : Sl → O → Prop} {Xt : Addr → List (Str × D) → O → Prop}
def gs (l : List (Key × D)) (a b : Str) (first : Int) (n : Nat) : List Int := (List.range n).map fun (k : Nat) => va l a (first + (k : Int)) - va l b (first + (k : Int))
theorem gs_succ (l : List (Key × D)) (a b : Str) (first : Int) (n : Nat) : gs l a b first (n + 1) = gs l a b first n ++ [va l a (first + n) - va l b (first + n)] := by
  unfold gs
  rw [List.range_succ, List.map_append]
  rfl
theorem w__law_gap (c : c__law_gap K ss o Rt Xt) : Wf (r__law_gap K W) 7 B ss o Rt := by
  obtain ⟨a, b, xn, first, last, least, l, M, rfl, la, lb, hn, h0, h1, h2, ka, kb, vd, h⟩ := c
  unfold Wf r__law_gap
  walk_at "st"
  have n0 : atI [Sl.da (.str a), Sl.da (.str b)] 0 = some (.da (.str a)) := rfl
  have n1 : atI [Sl.da (.str a), Sl.da (.str b)] 1 = some (.da (.str b)) := rfl
  refine s_seq (s_asg (e_lcR2 ?_))
  walk_at "e"
  refine ⟨first, last + 1, rfl, by omega, fun k acc o' => o' = o ∧ k ≤ 25 ∧ acc = (gs l a b first k).map D.int, ⟨rfl, by omega, rfl⟩, ?_, ?_, ?_⟩
  · rintro k acc o' ⟨rfl, hk, rfl⟩
    simp [gs]
    omega
  · rintro k acc o' hk ⟨rfl, _, rfl⟩
    have kk : (k : Int) ≤ last - first := by omega
    walk_at "e"
    refine o_ixD (k := .inr (atM a (first + k))) (d := .int (va l a (first + k))) (look_get (va_look ka (by omega) (by omega))) ?_
    walk_at "e"
    refine o_ixD (k := .inr (atM b (first + k))) (d := .int (va l b (first + k))) (look_get (va_look kb (by omega) (by omega))) ?_
    walk_at "e"
    refine ⟨rfl, by omega, ?_⟩
    rw [gs_succ, List.map_append]
    rfl
  · rintro acc o' ⟨rfl, _, rfl⟩
    have hg : ∀ m, m ∈ gs l a b first (last + 1 - first).toNat → -M ≤ m ∧ m ≤ M := fun m hm => by
      unfold gs at hm
      obtain ⟨k, hk, rfl⟩ := List.mem_map.mp hm
      have hk' := List.mem_range.mp hk
      have v1 := vd _ _ (va_look ka (t := first + k) (by omega) (by omega))
      have v2 := vd _ _ (va_look kb (t := first + k) (by omega) (by omega))
      omega
    have hlen : 0 < (gs l a b first (last + 1 - first).toNat).length := by simp [gs]; omega
    have hL : LL o' (.da (.lst ((gs l a b first (last + 1 - first).toNat).map D.int))) ((gs l a b first (last + 1 - first).toNat).map fun i => Sl.da (.int i)) := by
      show _ = _
      rw [List.map_map]
      rfl
    walk_at "e"
    cases least with
    | true =>
      walk_at "e"
      exact n_minL hL hlen fun m hm _ => h m (hg m hm).1 (hg m hm).2
    | false =>
      walk_at "e"
      exact n_maxL hL hlen fun m hm _ => h m (hg m hm).1 (hg m hm).2
theorem e_kd {ρ : R} {j : Nat} {kept : Bool} {n : Int} {P : Sl → O → Prop} (r6 : ρ[6]? = some (some (.da (.bl kept)))) (r0 : ρ[0]? = some (some (.ow j))) (pu : Pu o j) (n0 : 0 < n) (n1 : n < 2 ^ 62) (p : ∀ (r : Int) o', 0 ≤ r → r < n → Fj j o o' → P (.da (.int r)) o') :
    AE B (tIf (tB (tVar 6)) (tC (.int 0)) (tCallS (SpC (c__law_draw K)) (WE W) (tCons (tVar 0) (tCons (tC (.int n)) tNil)))) ρ o P := by
  refine e_if (t_B (e_var r6 ⟨_, rfl, ?_⟩))
  cases kept with
  | true => exact ite_tt (e_int (p 0 o (by omega) n0 (Fj.refl pu)))
  | false => exact ite_ff (e_callA (a_cons (e_var r0 (a_cons (e_int (a_nil (draw_in n0 n1 pu fun r o' a b f => p r o' a b f)))))))
theorem w__law_numbers (c : c__law_numbers K ss o Rt Xt) : Wf (r__law_numbers K W) 10 B ss o Rt := by
  obtain ⟨j, kind, a, b, xn, first, last, l, rfl, pu, hxj, k0, k5, la, lb, hn, h0, h1, h2, ka, kb, vd, h⟩ := c
  have jl := pu.lt
  unfold Wf r__law_numbers
  walk_at "st"
  walk_at "e"
  refine draw_in (by decide) (by decide) pu fun r1 o1 a0 a1 f1 => ?_
  refine e_int (o_eqI (g_name ?_))
  generalize hkept : decide (r1 = 0) = kept
  refine s_seq (s_asg (e_op (e_callA ?_)))
  walk_at "e"
  refine ⟨a, b, xn, first, last, true, l, 1000, rfl, la, lb, LL.fj hn hxj f1, h0, h1, h2, ka, kb, vd, fun g1 g10 g11 => ?_⟩
  refine e_kd rfl rfl f1.pu (by decide) (by decide) fun r2 o2 b0 b1 f2 => o_add (g_name ?_)
  have f12 := f1.trans f2
  refine s_seq (s_asg (e_cb (a_cons (e_int (a_cons (e_var rfl (a_cons (e_op (e_callA ?_)))))))))
  walk_at "e"
  refine ⟨a, b, xn, first, last, false, l, 1000, rfl, la, lb, LL.fj hn hxj f12, h0, h1, h2, ka, kb, vd, fun g2 g20 g21 => ?_⟩
  refine e_kd rfl rfl f12.pu (by decide) (by decide) fun r3 o3 c0 c1 f3 => o_sub (a_nil ?_)
  have f13 := f12.trans f3
  refine n_max3 fun high hh0 hh1 hh2 hh3 => g_name ?_
  generalize hlow : g1 + r2 = low at *
  have lw0 : -1000 ≤ low := by omega
  have lw1 : low ≤ 1002 := by omega
  have hi1 : high ≤ 1002 := by omega
  refine s_seq (s_asg (e_callA ?_))
  walk_at "e"
  refine draw_in (by decide) (by decide) f13.pu fun r4 o4 d0 d1 f4 => g_name ?_
  have f14 := f13.trans f4
  -- kind 3
  refine s_cut (fun ρ2 o' => Fj j o o' ∧ ∃ mn : Int, 0 ≤ mn ∧ mn ≤ 1005 ∧ ρ2 = [some (.ow j), some (.da (.int kind)), some xn, some (.da (.int first)), some (.da (.int last)), some (.da (.dic l)), some (.da (.bl kept)), some (.da (.int low)), some (.da (.int high)), some (.da (.int mn))]) ?_ ?_
  · walk_at "e"
    refine ite_dec (fun h3 => ?_) fun h3 => ?_
    · have hn4 := LL.fj hn hxj f14
      have n0 : atI [Sl.da (.str a), Sl.da (.str b)] 0 = some (.da (.str a)) := rfl
      refine s_asg (e_cb (a_cons (e_int (a_cons (e_op (e_op (e_var rfl (e_callA ?_))))))))
      walk_at "e"
      refine o_ixD (k := .inr (atM a last)) (d := .int (va l a last)) (look_get (va_look ka (by omega) (by omega))) ?_
      have v1 := vd _ _ (va_look ka (t := last) (by omega) (by omega))
      refine e_kd rfl rfl f14.pu (by decide) (by decide) fun r5 o5 e0 e1 f5 => o_add (a_nil ?_)
      refine n_max2 (g_name ?_)
      refine ⟨f14.trans f5, _, ?_, ?_, rfl⟩
      · split <;> omega
      · split <;> omega
    · walk_at "e"
      exact ⟨f14, r4, by omega, by omega, rfl⟩
  rintro ρ2 o5 ⟨f15, mn, m0, m1, rfl⟩
  refine s_cut (fun ρ2 o' => Fj j o o' ∧ ∃ low : Int, -3000 ≤ low ∧ low ≤ 1002 ∧ low ≤ high ∧ ρ2 = [some (.ow j), some (.da (.int kind)), some xn, some (.da (.int first)), some (.da (.int last)), some (.da (.dic l)), some (.da (.bl kept)), some (.da (.int low)), some (.da (.int high)), some (.da (.int mn))]) ?_ ?_
  · walk_at "e"
    refine ite_dec (fun h3 => ?_) fun h3 => ?_
    · walk_at "e"
      cases kept with
      | true =>
        walk_at "e"
        exact ⟨f15, _, by omega, by omega, by omega, rfl⟩
      | false =>
        walk_at "e"
        exact ⟨f15, _, by omega, by omega, hh1, rfl⟩
    · walk_at "e"
      exact ⟨f15, _, by omega, by omega, hh1, rfl⟩
  rintro ρ2 o6 ⟨f16, low, lw0, lw1, lw2, rfl⟩
  refine s_cut (fun ρ2 o' => Fj j o o' ∧ ∃ mn : Int, 0 ≤ mn ∧ mn ≤ 1005 ∧ ρ2 = [some (.ow j), some (.da (.int kind)), some xn, some (.da (.int first)), some (.da (.int last)), some (.da (.dic l)), some (.da (.bl kept)), some (.da (.int low)), some (.da (.int high)), some (.da (.int mn))]) ?_ ?_
  · walk_at "e"
    refine ite_dec (fun h3 => ?_) fun h3 => ?_
    · walk_at "e"
      cases kept with
      | true =>
        walk_at "e"
        exact ⟨f16, _, by omega, by omega, rfl⟩
      | false =>
        walk_at "e"
        exact ⟨f16, _, by omega, by omega, rfl⟩
    · walk_at "e"
      exact ⟨f16, _, by omega, by omega, rfl⟩
  rintro ρ2 o7 ⟨f17, mn, m0, m1, rfl⟩
  have far : ∀ x : Int, -3000 ≤ x → x ≤ 1002 → farN (some x) = false := fun x a b => by
    simp only [farN, Bool.or_eq_false_iff, decide_eq_false_iff_not]
    omega
  have bz : belowZ (some high) = false := decide_eq_false (by omega)
  have endN : ∀ (lo hi : Option Int) o', Fj j o o' → farN lo = false → farN hi = false → (kind = 4 → ∃ l, lo = some l) → (kind = 0 → belowZ hi = false ∧ crossd lo hi = false) → Rt (.ow o'.length) (o' ++ [.lst [.da (optD lo), .da (optD hi), .da (.int mn), .da (.int 1), .da (.int 0), .da (.int 9)]]) :=
    fun lo hi o' f p1 p2 p3 p4 => h lo hi mn _ _ (f.add _) f.len get_new p1 p2 m0 (by omega) p3 p4
  have six : (6 : Nat) ≤ sizeLine := sizeBig (by decide)
  have third : ∀ o', Fj j o o' → WS B (tRet (tLst (tCons (tVar 7) (tCons (tVar 8) (tCons (tVar 9) (tCons (tC (.int 1)) (tCons (tC (.int 0)) (tCons (tC (.int 9)) tNil)))))))) { nx := fun _ o => Rt (.da .non) o, rt := Rt } [some (.ow j), some (.da (.int kind)), some xn, some (.da (.int first)), some (.da (.int last)), some (.da (.dic l)), some (.da (.bl kept)), some (.da (.int low)), some (.da (.int high)), some (.da (.int mn))] o' := fun o' f => by
    refine s_ret (e_lstO ?_)
    walk_at "e"
    exact ⟨six, endN (some low) (some high) o' f (far _ lw0 lw1) (far _ (by omega) hi1) (fun _ => ⟨_, rfl⟩) (fun _ => ⟨bz, decide_eq_false (by omega)⟩)⟩
  walk_at "e"
  refine ite_dec (fun h3 => ?_) fun h3 => ?_
  · walk_at "e"
    refine draw_in (by decide) (by decide) f17.pu fun r5 o8 e0 e1 f8 => ?_
    have f18 := f17.trans f8
    refine e_int (o_eqI ⟨_, rfl, ite_dec (fun h4 => ?_) fun h4 => ?_⟩)
    · refine s_ret (e_lstO ?_)
      walk_at "e"
      exact ⟨six, endN none (some high) _ f18 rfl (far _ (by omega) hi1) (fun z => by omega) (fun _ => ⟨bz, rfl⟩)⟩
    refine s_next (s_seq (s_if (t_and (t_test (e_op (e_var rfl (e_int (o_eqI ⟨_, rfl, ite_dec (fun h5 => ?_) fun h5 => absurd h3 h5⟩))))))))
    walk_at "e"
    refine draw_in (by decide) (by decide) f18.pu fun r5 o8 e0 e1 f9 => ?_
    have f19 := f18.trans f9
    refine e_int (o_eqI ⟨_, rfl, ite_dec (fun h4 => ?_) fun h4 => ?_⟩)
    · refine s_ret (e_lstO ?_)
      walk_at "e"
      exact ⟨six, endN (some low) none _ f19 (far _ lw0 lw1) rfl (fun z => by omega) (fun _ => ⟨rfl, rfl⟩)⟩
    exact s_next (third _ f19)
  · refine s_next (s_seq (s_if (t_and (t_test (e_op (e_var rfl (e_int (o_eqI ⟨_, rfl, ite_dec (fun h5 => absurd h5 h3) fun h5 => ?_⟩))))))))
    exact ite_ff (s_next (third _ f17))
end K03
end AB

set_option Elab.async false
set_option linter.all false
set_option maxRecDepth 100000
set_option maxHeartbeats 4000000
set_option autoImplicit false
namespace AB
open PySem L2 PySem.Spec PyProof.Rows He
namespace K03
local macro_rules | `(tactic| walk_at "e") => `(tactic| repeat' (first
  | (with_reducible refine s_seq ?_) | (with_reducible refine s_if ?_) | (with_reducible refine s_drop ?_) | (with_reducible refine s_ret ?_) | (with_reducible refine s_next ?_) | (with_reducible refine s_asg ?_)
  | (with_reducible refine g_name ?_)
  | (with_reducible refine t_test ?_) | (with_reducible refine t_B ?_) | (with_reducible refine t_or ?_) | (with_reducible refine t_and ?_) | (with_reducible refine t_not ?_)
  | ((with_reducible apply e_var); rfl) | (with_reducible refine e_int ?_) | (with_reducible refine e_str ?_) | (with_reducible refine e_bl ?_) | (with_reducible refine e_non ?_)
  | (with_reducible refine e_raw ?_) | (with_reducible refine ite_tt ?_) | (with_reducible refine ite_ff ?_) | (with_reducible refine ite_ntt ?_) | (with_reducible refine ite_nff ?_) | (with_reducible refine n_isiS ?_) | (with_reducible refine n_isiL ?_) | (with_reducible refine n_isiT ?_)
  | (with_reducible refine e_op ?_) | (with_reducible refine e_un ?_) | (with_reducible refine e_cb ?_) | (with_reducible refine e_callA ?_) | (with_reducible refine e_andV ?_) | (with_reducible refine e_if ?_)
  | (with_reducible refine a_cons ?_) | (with_reducible refine a_nil ?_)
  | (with_reducible refine o_gt ?_) | (with_reducible refine o_lt ?_) | (with_reducible refine o_le ?_) | (with_reducible refine o_ge ?_) | (with_reducible refine o_add ?_) | (with_reducible refine o_sub ?_) | (with_reducible refine o_neg ?_)
  | (with_reducible refine e_tup ?_) | (with_reducible refine e_lst ?_) | (with_reducible refine exd0 ?_) | (with_reducible refine exd1 ?_) | (with_reducible refine exd2 ?_) | (with_reducible refine exd3 ?_) | (with_reducible refine exd4 ?_) | (with_reducible refine exd5 ?_) | (with_reducible refine exd6 ?_)
  | (with_reducible refine o_isNotI ?_) | (with_reducible refine o_isNotN ?_) | (with_reducible refine o_isNotS ?_) | (with_reducible refine o_isI ?_) | (with_reducible refine o_isN ?_) | (with_reducible refine o_isS ?_) | (with_reducible refine o_isT ?_)
  | (with_reducible refine t_yes ?_) | (with_reducible refine gw_name (by decide) ?_)
  | (with_reducible refine s_par ?_) | (with_reducible refine ex2 ?_) | (with_reducible refine o_eqI ?_) | (with_reducible refine o_neI ?_) | (with_reducible refine o_ixL (by assumption) (by assumption) ?_)
  | (with_reducible refine e_sl ?_) | (with_reducible refine l_none ?_) | (with_reducible refine l_some ?_)
  | (with_reducible refine n_list (by assumption) ?_)
  | (with_reducible refine cat_in2 (by first | assumption | omega) (by omega) (by omega) ?_) | (with_reducible refine s_par3 ?_) | (with_reducible refine ex3 ?_)
  | (with_reducible refine cat_in (by first | assumption | omega) (by omega) (by omega) ?_)
  | (with_reducible refine ite_dec (fun h => absurd h (by decide)) (fun _ => ?_)) | (with_reducible refine ite_dec (fun _ => ?_) (fun h => absurd (by decide) h))
  | (with_reducible refine Exists.intro _ (And.intro rfl ?_))))
local macro_rules | `(tactic| walk_at "st") => `(tactic| simp only [List.map_cons, List.map_nil, List.length_cons, List.length_nil, Nat.reduceAdd, Nat.reduceSub, List.replicate, List.cons_append, List.nil_append])
variable {K : PySem.W.Frag} {B : Base} {W : WX} {ss : List Sl} {o : O} {Rt : Sl → O → Prop} {Xt : Addr → List (Str × D) → O → Prop}
theorem o_neSame {d : D} {P : Sl → O → Prop} (hp : d.py.plain = true) (hd : d.py.depth ≤ 60) (p : P (.da (.bl false)) o) : A2 B (rNeP K) (.da d) (.da d) o P := o_ne hp hp (by omega) (by rw [eqv_refl _ hp]; exact p)
theorem o_eqSame {d : D} {P : Sl → O → Prop} (hp : d.py.plain = true) (hd : d.py.depth ≤ 60) (p : P (.da (.bl true)) o) : A2 B (rEqP K) (.da d) (.da d) o P := o_eq hp hp (by omega) (by rw [eqv_refl _ hp]; exact p)
theorem dep2 {x y : Str} : (D.py (.tup [.str x, .str y])).depth ≤ 60 := by
  simp [D.py, D.pyL, PyData.depth, PyData.depthAll]
section
variable {kind : Int} {a b : Str} {xn xm xs : Sl} {first last : Int} {low high : Option Int} {mn helper least most : Int} {yes no : List Str} {P : Sl → O → Prop} {X : Addr → List (Str × D) → O → Prop}
theorem ask_ok (A : Ask o kind a b xn xm xs low high mn helper least most yes no) (e : (callS kind a b first last low high mn helper least most yes no).1 = .ok) (p : ∀ o', Fp o o' → P (.da (.tup [.str "let", (callS kind a b first last low high mn helper least most yes no).2])) o') : c__law_asked K [.da (.int kind), xn, .da (.int first), .da (.int last), xm, xs] o P X :=
  ⟨kind, a, b, xn, first, last, xm, xs, low, high, mn, helper, least, most, yes, no, rfl, A, fun o' f => by rw [told_ok e]; exact p o' f⟩
theorem ask_bad {s : Str} (A : Ask o kind a b xn xm xs low high mn helper least most yes no) (e : (callS kind a b first last low high mn helper least most yes no).1 = .bad s) (p : ∀ o', Fp o o' → P (.da (.tup [.str "pattern", .str s])) o') : c__law_asked K [.da (.int kind), xn, .da (.int first), .da (.int last), xm, xs] o P X :=
  ⟨kind, a, b, xn, first, last, xm, xs, low, high, mn, helper, least, most, yes, no, rfl, A, fun o' f => by rw [told_bad e]; exact p o' f⟩
theorem ask_many {s : Str} (A : Ask o kind a b xn xm xs low high mn helper least most yes no) (e : (callS kind a b first last low high mn helper least most yes no).1 = .many s) (p : ∀ o', Fp o o' → P (.da (.tup [.str "many", .str s])) o') : c__law_asked K [.da (.int kind), xn, .da (.int first), .da (.int last), xm, xs] o P X :=
  ⟨kind, a, b, xn, first, last, xm, xs, low, high, mn, helper, least, most, yes, no, rfl, A, fun o' f => by rw [told_many e]; exact p o' f⟩
theorem mkAsk (k0 : 0 ≤ kind) (k8 : kind ≤ 8) (la : a.length ≤ 1000) (lb : b.length ≤ 1000) (hlo : kind = 4 → ∃ l, low = some l) :
    Ask o kind a b (.da (.lst [.str a, .str b])) (.da (.lst [optD low, optD high, .int mn, .int helper, .int least, .int most])) (.da (.lst [.lst [], .lst []])) low high mn helper least most [] [] :=
  ⟨k0, k8, la, lb, rfl, ⟨_, rfl, rfl, rfl, rfl, rfl, fun _ => ⟨rfl, rfl⟩⟩, hlo, fun _ => ⟨_, _, rfl, rfl, rfl⟩⟩
theorem mkAsk7 (hk : kind = 7 ∨ kind = 8) (la : a.length ≤ 1000) (lb : b.length ≤ 1000) :
    Ask o kind a b (.da (.lst [.str a, .str b])) (.da (.lst [optD low, optD high, .int mn, .int helper])) (.da (.lst [])) low high mn helper 0 0 [] [] :=
  ⟨by omega, by omega, la, lb, rfl, ⟨_, rfl, rfl, rfl, rfl, rfl, fun z => by omega⟩, fun z => by omega, fun z => by omega⟩
end
theorem chk_of {names : List Str} {first last : Int} {ns : List (Option Int)} {wrong : Bool} (h1 : last ≤ 24) (h2 : ns.any farN = false) (h3 : 0 ≤ first) (h4 : first ≤ last) (h5 : (names.any fun n => !isW n || !isW (atM n last)) = false) (h6 : wrong = false) : chk names first last ns wrong = .ok := by
  unfold chk
  rw [if_neg (by omega), if_neg (by rw [h2]; decide), if_neg (by omega), if_neg (by rw [h5]; decide), if_neg (by rw [h6]; decide)]
theorem farS {x : Int} (h1 : -1000000000 ≤ x) (h2 : x ≤ 1000000000) : farN (some x) = false := by
  simp only [farN, Bool.or_eq_false_iff, decide_eq_false_iff_not]
  omega
theorem plain_rows {α : Type} {f : Int → List α} {g : α → D} (hf : ∀ x, (g x).py.plain = true) {l : List α} : PyData.plainAll (D.pyL (l.map g)) = true := by
  induction l with
  | nil => rfl
  | cons x r ih =>
    show ((g x).py.plain && PyData.plainAll (D.pyL (r.map g))) = true
    rw [hf, ih]
    rfl
theorem plainL {l : List D} (h : ∀ d, d ∈ l → d.py.plain = true) : PyData.plainAll (D.pyL l) = true := by
  induction l with
  | nil => rfl
  | cons x r ih =>
    show (x.py.plain && PyData.plainAll (D.pyL r)) = true
    rw [h x List.mem_cons_self, ih fun d hd => h d (List.mem_cons_of_mem _ hd)]
    rfl
theorem depthL {l : List D} {n : Nat} (h : ∀ d, d ∈ l → d.py.depth ≤ n) : PyData.depthAll (D.pyL l) ≤ n := by
  induction l with
  | nil => exact Nat.zero_le _
  | cons x r ih =>
    have h1 := h x List.mem_cons_self
    have h2 := ih fun d hd => h d (List.mem_cons_of_mem _ hd)
    simp only [D.pyL, PyData.depthAll]
    omega
theorem mem_rowsU {α : Type} {f : Int → List α} {first : Int} {n : Nat} {x : α} (h : x ∈ rowsU f first n) : ∃ k : Nat, k < n ∧ x ∈ f (first + k) := by
  unfold rowsU at h
  obtain ⟨k, hk, hx⟩ := List.mem_flatMap.mp h
  exact ⟨k, List.mem_range.mp hk, hx⟩
theorem w__law_sent (c : c__law_sent K ss o Rt Xt) : Wf (r__law_sent K W) 8 B ss o Rt := by
  obtain ⟨j, rfl, pu, h⟩ := c
  unfold Wf r__law_sent
  walk_at "st"
  walk_at "e"
  refine ⟨j, rfl, pu, fun first last o1 h0 h1 h2 f1 => ?_⟩
  refine g_unL (ss := [.da (.int first), .da (.int last)]) rfl rfl (g_cons (g_name (g_cons (g_name (g_nil ?_)))))
  walk_at "e"
  refine draw_in (by decide) (by decide) f1.pu fun r1 o2 a0 a1 f2 => o_add (g_name ?_)
  walk_at "e"
  refine draw_in (by decide) (by decide) f2.pu fun r2 o3 b0 b1 f3 => o_add (g_name ?_)
  have f13 := (f1.trans f2).trans f3
  walk_at "e"
  refine ⟨j, .da (.lst []), [], rfl, f13.pu, (fun z => by cases z), rfl, fun w o4 hw f4 => g_name ?_⟩
  have f14 := f13.trans f4
  have wl : w.length ≤ 1000 := by
    unfold isW at hw
    simp only [Bool.and_eq_true, decide_eq_true_eq] at hw
    omega
  have e0 : ((("" : String) : Str)).length ≤ 1000 := by decide +kernel
  walk_at "e"
  have c7 : (callS 7 "" "" first last (some 0) (some 0) (1 + r1) (1 + r2) 0 0 [] []).1 = .ok := chk_of h2 (by simp [List.any, farS (x := 1 + r1) (by omega) (by omega)]) h0 h1 rfl (decide_eq_false (by omega))
  refine ask_ok (mkAsk7 (low := some 0) (high := some 0) (.inl rfl) e0 e0) c7 fun o5 p5 => g_name ?_
  have f15 := f14.ofFp p5
  have hbnd : ∀ (g : Int → List D), (∀ t, (g t).length ≤ 2) → ∀ k : Nat, k ≤ 25 → (rowsU g first k).length ≤ 1000000 := fun g hg k hk => by
    have := rowsU_len (first := first) hg k
    omega
  walk_at "e"
  refine e_lcR2 ?_
  walk_at "e"
  refine ⟨first, last + 1, rfl, by omega, fun k acc o' => o' = o5 ∧ acc = rowsU (dRoad (1 + r2) (1 + r2 + 1) (1 + r1)) first k ∧ k ≤ 25, ⟨rfl, rfl, by omega⟩, ?_, ?_, ?_⟩
  · rintro k acc o' ⟨rfl, rfl, hk⟩
    exact hbnd _ (fun t => by simp [dRoad]) k hk
  · rintro k acc o' hk ⟨rfl, rfl, _⟩
    walk_at "e"
    refine ⟨rfl, ?_, by omega⟩
    rw [rowsU_succ]
    rfl
  rintro acc o' ⟨rfl, rfl, _⟩
  walk_at "e"
  have pl7 : ∀ d, d ∈ rowsU (dRoad (1 + r2) (1 + r2 + 1) (1 + r1)) first (many first last) → d.py.plain = true ∧ d.py.depth ≤ 5 := fun d hd => by
    obtain ⟨k, _, hx⟩ := mem_rowsU hd
    unfold dRoad at hx
    rw [List.mem_singleton.mp hx]
    exact ⟨rfl, by simp [D.py, D.pyL, PyData.depth, PyData.depthAll]⟩
  refine o_neSame (d := .tup [.str "let", .lst (rowsU (dRoad (1 + r2) (1 + r2 + 1) (1 + r1)) first (many first last))]) ?_ ?_ ?_
  · show (true && (PyData.plainAll (D.pyL _) && true)) = true
    rw [plainL fun d hd => (pl7 d hd).1]
    rfl
  · have := depthL fun d hd => (pl7 d hd).2
    simp only [D.py, D.pyL, PyData.depth, PyData.depthAll]
    omega
  walk_at "e"
  have c8 : (callS 8 w "" first last (some 0) (some 0) 0 (1 + r2) 0 0 [] []).1 = .ok := by
    show (match chk [] first last [] false with
      | .ok => if isW w = true then Oc.ok else .bad "name"
      | r => r) = .ok
    rw [chk_of h2 rfl h0 h1 rfl rfl]
    show (if isW w = true then Oc.ok else .bad "name") = .ok
    rw [if_pos hw]
  refine ask_ok (mkAsk7 (low := some 0) (high := some 0) (.inr rfl) wl e0) c8 fun o6 p6 => g_name ?_
  have f16 := f15.ofFp p6
  walk_at "e"
  refine e_lcR2 ?_
  walk_at "e"
  refine ⟨first, last + 1, rfl, by omega, fun k acc o' => o' = o6 ∧ acc = rowsU (dSight w (1 + r2)) first k ∧ k ≤ 25, ⟨rfl, rfl, by omega⟩, ?_, ?_, ?_⟩
  · rintro k acc o' ⟨rfl, rfl, hk⟩
    exact hbnd _ (fun t => by simp [dSight]) k hk
  · rintro k acc o' hk ⟨rfl, rfl, _⟩
    walk_at "e"
    refine ⟨rfl, ?_, by omega⟩
    rw [rowsU_succ]
    rfl
  rintro acc o' ⟨rfl, rfl, _⟩
  walk_at "e"
  have pl8 : ∀ d, d ∈ rowsU (dSight w (1 + r2)) first (many first last) → d.py.plain = true ∧ d.py.depth ≤ 5 := fun d hd => by
    obtain ⟨k, _, hx⟩ := mem_rowsU hd
    unfold dSight at hx
    rw [List.mem_singleton.mp hx]
    exact ⟨rfl, by simp [D.py, D.pyL, PyData.depth, PyData.depthAll]⟩
  refine o_neSame (d := .tup [.str "let", .lst (rowsU (dSight w (1 + r2)) first (many first last))]) ?_ ?_ ?_
  · show (true && (PyData.plainAll (D.pyL _) && true)) = true
    rw [plainL fun d hd => (pl8 d hd).1]
    rfl
  · have := depthL fun d hd => (pl8 d hd).2
    simp only [D.py, D.pyL, PyData.depth, PyData.depthAll]
    omega
  walk_at "e"
  have c7b : (callS 7 "" "" first last (some 0) (some 0) 0 (1 + r2) 0 0 [] []).1 = .bad "number" := by
    show chk [] first last [some 0] (decide ((0 : Int) < 1)) = _
    unfold chk
    rw [if_neg (by omega), if_neg (by decide), if_neg (by omega), if_neg (by exact Bool.false_ne_true), if_pos (by decide)]
  refine ask_bad (mkAsk7 (low := some 0) (high := some 0) (.inl rfl) e0 e0) c7b fun o7 p7 => ?_
  walk_at "e"
  exact o_eqSame rfl dep2 (h _ (f16.ofFp p7))
end K03
end AB

set_option Elab.async false
set_option linter.all false
set_option maxRecDepth 100000
set_option maxHeartbeats 4000000
set_option autoImplicit false
namespace AB
open PySem L2 PySem.Spec PyProof.Rows He
namespace K03
local macro_rules | `(tactic| walk_at "e") => `(tactic| repeat' (first
  | (with_reducible refine s_seq ?_) | (with_reducible refine s_if ?_) | (with_reducible refine s_drop ?_) | (with_reducible refine s_ret ?_) | (with_reducible refine s_next ?_) | (with_reducible refine s_asg ?_)
  | (with_reducible refine g_name ?_)
  | (with_reducible refine t_test ?_) | (with_reducible refine t_B ?_) | (with_reducible refine t_or ?_) | (with_reducible refine t_and ?_) | (with_reducible refine t_not ?_)
  | ((with_reducible apply e_var); rfl) | (with_reducible refine e_int ?_) | (with_reducible refine e_str ?_) | (with_reducible refine e_bl ?_) | (with_reducible refine e_non ?_)
  | (with_reducible refine e_raw ?_) | (with_reducible refine ite_tt ?_) | (with_reducible refine ite_ff ?_) | (with_reducible refine ite_ntt ?_) | (with_reducible refine ite_nff ?_) | (with_reducible refine n_isiS ?_) | (with_reducible refine n_isiL ?_) | (with_reducible refine n_isiT ?_)
  | (with_reducible refine e_op ?_) | (with_reducible refine e_un ?_) | (with_reducible refine e_cb ?_) | (with_reducible refine e_callA ?_) | (with_reducible refine e_andV ?_) | (with_reducible refine e_if ?_)
  | (with_reducible refine a_cons ?_) | (with_reducible refine a_nil ?_)
  | (with_reducible refine o_gt ?_) | (with_reducible refine o_lt ?_) | (with_reducible refine o_le ?_) | (with_reducible refine o_ge ?_) | (with_reducible refine o_add ?_) | (with_reducible refine o_sub ?_) | (with_reducible refine o_neg ?_)
  | (with_reducible refine e_tup ?_) | (with_reducible refine e_lst ?_) | (with_reducible refine exd0 ?_) | (with_reducible refine exd1 ?_) | (with_reducible refine exd2 ?_) | (with_reducible refine exd3 ?_) | (with_reducible refine exd4 ?_) | (with_reducible refine exd5 ?_) | (with_reducible refine exd6 ?_)
  | (with_reducible refine o_isNotI ?_) | (with_reducible refine o_isNotN ?_) | (with_reducible refine o_isNotS ?_) | (with_reducible refine o_isI ?_) | (with_reducible refine o_isN ?_) | (with_reducible refine o_isS ?_) | (with_reducible refine o_isT ?_)
  | (with_reducible refine t_yes ?_) | (with_reducible refine gw_name (by decide) ?_)
  | (with_reducible refine s_par ?_) | (with_reducible refine ex2 ?_) | (with_reducible refine o_eqI ?_) | (with_reducible refine o_neI ?_) | (with_reducible refine o_ixL (by assumption) (by assumption) ?_)
  | (with_reducible refine e_sl ?_) | (with_reducible refine l_none ?_) | (with_reducible refine l_some ?_)
  | (with_reducible refine n_list (by assumption) ?_)
  | (with_reducible refine cat_in2 (by first | assumption | omega) (by omega) (by omega) ?_) | (with_reducible refine s_par3 ?_) | (with_reducible refine ex3 ?_)
  | (with_reducible refine cat_in (by first | assumption | omega) (by omega) (by omega) ?_)
  | (with_reducible refine ite_dec (fun h => absurd h (by decide)) (fun _ => ?_)) | (with_reducible refine ite_dec (fun _ => ?_) (fun h => absurd (by decide) h))
  | (with_reducible refine Exists.intro _ (And.intro rfl ?_))))
local macro_rules | `(tactic| walk_at "st") => `(tactic| simp only [List.map_cons, List.map_nil, List.length_cons, List.length_nil, Nat.reduceAdd, Nat.reduceSub, List.replicate, List.cons_append, List.nil_append])
variable {K : PySem.W.Frag} {B : Base} {W : WX} {ss : List Sl} {o : O} {Rt : Sl → O → Prop} {Xt : Addr → List (Str × D) → O → Prop}
abbrev R0 (more : Int) (p : Nat) : List Sl := [Sl.da (.int 0), .da (.int 1), .da (.int 1), .da (.int 1), .da (.int 0), .da (.int 9)].set p (.da (.int more))
def fx (p : Nat) (more : Int) (q : Nat) (d : Int) : Int := if p = q then more else d
def oddL : List Str := ["", "A", "if", "1a", "abcdefghijklm", "a b"]
def wrongL : List (List (Option Int × Option Int × Int)) := [[(some 1, some 0, 1), (some 0, some (-1), 1), (some (-5), some (-1), 1), (none, some (-1), 1)], [(some 0, some 1, -1)], [(some 0, some 1, -1)], [(some 0, some 1, -1)], [(some 0, some 1, -1)],
  [(some 0, some 1, -1)], [(some 1, some 0, 1), (none, some (-1), 1), (some (-5), some (-1), 1)], [(some 0, some 1, 0), (some 0, some 1, -1)], []]
def partL : List (List Nat) := [[0, 1], [2], [2], [2], [0, 2], [2], [0, 1, 4, 5], [2], []]
def w3 (w : Option Int × Option Int × Int) : D := .lst [optD w.1, optD w.2.1, .int w.2.2]
theorem t1 : ∀ n : Nat, n < 9 → (callS (n : Int) "a" "b" 0 24 (some 0) (some 1) 1 1 0 9 [] []).1 = .ok := by decide +kernel
theorem t2 : ∀ n : Nat, n < 9 → (callS (n : Int) "a" "b" 0 25 (some 0) (some 1) 1 1 0 9 [] []).1 = .many "moments" := by decide +kernel
theorem t3 : ∀ n : Nat, n < 9 → (callS (n : Int) "" "B" 0 25 (some 2) (some (-1)) (-1) 1 0 9 [] []).1 = .many "moments" := by decide +kernel
theorem t4 : ∀ n : Nat, n < 9 → n ≠ 3 → (callS (n : Int) "" "B" 3 2 (some 2) (some 1) (-1) 1 0 9 [] []).1 = .bad "moments" := by decide +kernel
theorem t5 : ∀ n : Nat, n < 9 → (callS (n : Int) "" "B" (-1) (if n = 3 then -1 else 2) (some 2) (some 1) (-1) 1 0 9 [] []).1 = .bad "moments" := by decide +kernel
theorem t6 : ∀ n : Nat, n < 9 → n ≠ 7 → ∀ i : Nat, i < 6 → (callS (n : Int) (oddL.getD i "") "b" 0 3 (some 2) (some 1) (-1) 1 0 9 [] []).1 = .bad "name" := by decide +kernel
theorem t7 : ∀ n : Nat, n < 7 → (callS (n : Int) "abcdefghij" "b" 9 9 (some 0) (some 1) 1 1 0 9 [] []).1 = .ok := by decide +kernel
theorem t8 : ∀ n : Nat, n < 7 → (callS (n : Int) "abcdefghij" "b" 9 10 (some 0) (some 1) 1 1 0 9 [] []).1 = .bad "name" := by decide +kernel
theorem t9 : ∀ n : Nat, n < 9 → ((D.pyL [.int 0, .int 1, .int 2, .int 4, .int 5]).any fun z => PyData.eqv z (D.py (.int (n : Int)))) = true → (callS (n : Int) "a" "B" 0 3 (some 0) (some 1) 1 1 0 9 [] []).1 = .bad "name" := by decide +kernel
theorem t10 : ∀ n : Nat, n < 9 → ∀ w, w ∈ wrongL.getD n [] → (callS (n : Int) "a" "b" 0 3 w.1 w.2.1 w.2.2 1 0 9 [] []).1 = .bad "number" := by decide +kernel
theorem t11 : ∀ n : Nat, n < 9 → ∀ p, p ∈ partL.getD n [] → (callS (n : Int) "" "b" 3 2 (some (fx p (if p = 0 then -1000000001 else 1000000001) 0 0)) (some (fx p (if p = 0 then -1000000001 else 1000000001) 1 1)) (fx p (if p = 0 then -1000000001 else 1000000001) 2 1) 1 (fx p (if p = 0 then -1000000001 else 1000000001) 4 0) (fx p (if p = 0 then -1000000001 else 1000000001) 5 9) [] []).1 = .many "numbers" := by decide +kernel
theorem t12 : ∀ n : Nat, n < 9 → ∀ p, p ∈ partL.getD n [] → (callS (n : Int) "a" "b" 0 0 (some (fx p (if p = 0 then -1000000000 else 1000000000) 0 0)) (some (fx p (if p = 0 then -1000000000 else 1000000000) 1 1)) (fx p (if p = 0 then -1000000000 else 1000000000) 2 1) 1 (fx p (if p = 0 then -1000000000 else 1000000000) 4 0) (fx p (if p = 0 then -1000000000 else 1000000000) 5 9) [] []).1 = .ok := by decide +kernel
theorem t13 : ∀ n : Nat, n < 9 → ∀ p, p ∈ partL.getD n [] → p = 0 ∨ p = 1 ∨ p = 2 ∨ p = 4 ∨ p = 5 := by decide +kernel
end K03
end AB

set_option Elab.async false
set_option linter.all false
set_option maxRecDepth 100000
set_option maxHeartbeats 4000000
set_option autoImplicit false
namespace AB
open PySem L2 PySem.Spec PyProof.Rows He
namespace K03
local macro_rules | `(tactic| walk_at "e") => `(tactic| repeat' (first
  | (with_reducible refine s_seq ?_) | (with_reducible refine s_if ?_) | (with_reducible refine s_drop ?_) | (with_reducible refine s_ret ?_) | (with_reducible refine s_next ?_) | (with_reducible refine s_asg ?_)
  | (with_reducible refine g_name ?_)
  | (with_reducible refine t_test ?_) | (with_reducible refine t_B ?_) | (with_reducible refine t_or ?_) | (with_reducible refine t_and ?_) | (with_reducible refine t_not ?_)
  | ((with_reducible apply e_var); rfl) | (with_reducible refine e_int ?_) | (with_reducible refine e_str ?_) | (with_reducible refine e_bl ?_) | (with_reducible refine e_non ?_)
  | (with_reducible refine e_raw ?_) | (with_reducible refine ite_tt ?_) | (with_reducible refine ite_ff ?_) | (with_reducible refine ite_ntt ?_) | (with_reducible refine ite_nff ?_) | (with_reducible refine n_isiS ?_) | (with_reducible refine n_isiL ?_) | (with_reducible refine n_isiT ?_)
  | (with_reducible refine e_op ?_) | (with_reducible refine e_un ?_) | (with_reducible refine e_cb ?_) | (with_reducible refine e_callA ?_) | (with_reducible refine e_andV ?_) | (with_reducible refine e_if ?_)
  | (with_reducible refine a_cons ?_) | (with_reducible refine a_nil ?_)
  | (with_reducible refine o_gt ?_) | (with_reducible refine o_lt ?_) | (with_reducible refine o_le ?_) | (with_reducible refine o_ge ?_) | (with_reducible refine o_add ?_) | (with_reducible refine o_sub ?_) | (with_reducible refine o_neg ?_)
  | (with_reducible refine e_tup ?_) | (with_reducible refine e_lst ?_) | (with_reducible refine exd0 ?_) | (with_reducible refine exd1 ?_) | (with_reducible refine exd2 ?_) | (with_reducible refine exd3 ?_) | (with_reducible refine exd4 ?_) | (with_reducible refine exd5 ?_) | (with_reducible refine exd6 ?_)
  | (with_reducible refine o_isNotI ?_) | (with_reducible refine o_isNotN ?_) | (with_reducible refine o_isNotS ?_) | (with_reducible refine o_isI ?_) | (with_reducible refine o_isN ?_) | (with_reducible refine o_isS ?_) | (with_reducible refine o_isT ?_)
  | (with_reducible refine t_yes ?_) | (with_reducible refine gw_name (by decide) ?_)
  | (with_reducible refine s_par ?_) | (with_reducible refine ex2 ?_) | (with_reducible refine o_eqI ?_) | (with_reducible refine o_neI ?_) | (with_reducible refine o_ixL (by assumption) (by assumption) ?_)
  | (with_reducible refine e_sl ?_) | (with_reducible refine l_none ?_) | (with_reducible refine l_some ?_)
  | (with_reducible refine n_list (by assumption) ?_)
  | (with_reducible refine cat_in2 (by first | assumption | omega) (by omega) (by omega) ?_) | (with_reducible refine s_par3 ?_) | (with_reducible refine ex3 ?_)
  | (with_reducible refine cat_in (by first | assumption | omega) (by omega) (by omega) ?_)
  | (with_reducible refine ite_dec (fun h => absurd h (by decide)) (fun _ => ?_)) | (with_reducible refine ite_dec (fun _ => ?_) (fun h => absurd (by decide) h))
  | (with_reducible refine Exists.intro _ (And.intro rfl ?_))))
local macro_rules | `(tactic| walk_at "st") => `(tactic| simp only [List.map_cons, List.map_nil, List.length_cons, List.length_nil, Nat.reduceAdd, Nat.reduceSub, List.replicate, List.cons_append, List.nil_append])
variable {K : PySem.W.Frag} {B : Base} {W : WX} {ss : List Sl} {o : O} {Rt : Sl → O → Prop} {Xt : Addr → List (Str × D) → O → Prop}
theorem s_chk {D0 : AD} {ρ : R} {t : TT} (Q : O → Prop) (h : AT B t ρ o fun b o1 => b = false ∧ Q o1) (k : ∀ o1, Q o1 → D0.nx ρ o1) : WS B (tIfS t (tRet (tC (.bl false))) tNext) D0 ρ o :=
  s_if (h.mono fun b o1 q => by
    obtain ⟨rfl, q⟩ := q
    exact ite_ff (s_next (k o1 q)))
theorem o_notSame {d : D} {P : Bool → O → Prop} {ρ : R} {te : TE} (h : AE B te ρ o fun s o1 => s = .da d ∧ P false o1) (hp : d.py.plain = true) (hd : d.py.depth ≤ 60) {tt : TE} (ht : ∀ o1 (Q : Sl → O → Prop), Q (.da d) o1 → AE B tt ρ o1 Q) : AT B (tTest (tOp (rNeP K) te tt)) ρ o P := by
  refine t_test (e_op (h.mono fun s o1 q => ?_))
  obtain ⟨rfl, q⟩ := q
  exact ht o1 _ (o_neSame hp hd ⟨_, rfl, q⟩)
theorem slit {s : Str} (h : s.length ≤ 1000 := by decide +kernel) : s.length ≤ 1000 := h
theorem far_at (lo : Int) (p : Nat) (h : p = 0 ∨ p = 1 ∨ p = 2 ∨ p = 4 ∨ p = 5) : atI (R0 lo p) 0 = some (.da (optD (some (fx p lo 0 0)))) ∧ atI (R0 lo p) 1 = some (.da (optD (some (fx p lo 1 1)))) ∧ atI (R0 lo p) 2 = some (.da (.int (fx p lo 2 1))) ∧ atI (R0 lo p) 3 = some (.da (.int 1)) ∧ atI (R0 lo p) 4 = some (.da (.int (fx p lo 4 0))) ∧ atI (R0 lo p) 5 = some (.da (.int (fx p lo 5 9))) := by
  rcases h with rfl | rfl | rfl | rfl | rfl <;> exact ⟨rfl, rfl, rfl, rfl, rfl, rfl⟩
theorem far_p (lo : Int) (p : Nat) (h : p = 0 ∨ p = 1 ∨ p = 2 ∨ p = 4 ∨ p = 5) : atI (R0 lo p) (p : Int) = some (.da (.int lo)) ∧ ixN (R0 lo p).length (p : Int) = some p := by
  rcases h with rfl | rfl | rfl | rfl | rfl <;> exact ⟨rfl, rfl⟩
theorem w__law_refused (c : c__law_refused K ss o Rt Xt) : Wf (r__law_refused K W) 13 B ss o Rt := by
  obtain ⟨j, kind, rfl, pu, k0, k8, h⟩ := c
  have jl := pu.lt
  obtain ⟨n, rfl⟩ := Int.eq_ofNat_of_zero_le k0
  have hn : n < 9 := by omega
  unfold Wf r__law_refused
  walk_at "st"
  refine s_seq (s_asg ?_)
  walk_at "e"
  have hlo : ∀ {x : Int}, (n : Int) = 4 → ∃ l, some x = some l := fun _ => ⟨_, rfl⟩
  refine ask_ok (mkAsk (low := some 0) (high := some 1) k0 k8 slit slit hlo) (t1 n hn) fun o1 f1 => ?_
  walk_at "e"
  refine o_ixT at0 ?_
  walk_at "e"
  refine o_neSame rfl (by simp [D.py, PyData.depth]) ?_
  walk_at "e"
  refine ask_many (mkAsk (low := some 0) (high := some 1) k0 k8 slit slit hlo) (t2 n hn) fun o2 f2 => ?_
  walk_at "e"
  refine o_neSame rfl dep2 ?_
  walk_at "e"
  refine ask_many (mkAsk (low := some 2) (high := some (-1)) k0 k8 slit slit hlo) (t3 n hn) fun o3 f3 => ?_
  walk_at "e"
  refine o_neSame rfl dep2 ?_
  have g3 := (f1.trans f2).trans f3
  refine ⟨_, rfl, ite_ff (s_next ?_)⟩
  refine s_seq (s_chk (fun o' => Fp o o') ?_ fun o4 g4 => ?_)
  · walk_at "e"
    refine ite_ndec (fun h1 => ?_) fun h1 => ⟨rfl, g3⟩
    walk_at "e"
    refine ask_bad (mkAsk (low := some 2) (high := some 1) k0 k8 slit slit hlo) (t4 n hn (by omega)) fun o4 f4 => ?_
    walk_at "e"
    refine o_neSame rfl dep2 ?_
    exact ⟨_, rfl, rfl, g3.trans f4⟩
  refine s_seq (s_chk (fun o' => Fp o o') ?_ fun o5 g5 => ?_)
  · have go : ∀ lst : Int, (callS (n : Int) "" "B" (-1) lst (some 2) (some 1) (-1) 1 0 9 [] []).1 = .bad "moments" → c__law_asked K [.da (.int n), .da (.lst [.str "", .str "B"]), .da (.int (-1)), .da (.int lst), .da (.lst [.int 2, .int 1, .int (-1), .int 1, .int 0, .int 9]), .da (.lst [.lst [], .lst []])] o4 (fun s o1 => s = .da (.tup [.str "pattern", .str "moments"]) ∧ Fp o o1) fun _ _ _ => False := fun lst e =>
      ask_bad (mkAsk (low := some 2) (high := some 1) k0 k8 slit slit hlo) e fun o' f => ⟨rfl, g4.trans f⟩
    have t5' := t5 n hn
    walk_at "e"
    refine ite_dec (fun h1 => ?_) fun h1 => ?_
    · have h1' : n = 3 := by omega
      subst h1'
      walk_at "e"
      refine ask_bad (mkAsk (low := some 2) (high := some 1) k0 k8 slit slit hlo) t5' fun o5 f5 => ?_
      walk_at "e"
      refine o_neSame rfl dep2 ?_
      exact ⟨_, rfl, rfl, g4.trans f5⟩
    · rw [if_neg (show ¬ n = 3 by omega)] at t5'
      walk_at "e"
      refine ask_bad (mkAsk (low := some 2) (high := some 1) k0 k8 slit slit hlo) t5' fun o5 f5 => ?_
      walk_at "e"
      refine o_neSame rfl dep2 ?_
      exact ⟨_, rfl, rfl, g4.trans f5⟩
  have pu5 : Fj j o o5 := (Fj.refl pu).ofFp g5
  refine s_cut (fun ρ' o' => Fj j o o' ∧ ∃ u, ρ' = [some (.ow j), some (.da (.int n)), some (.da (.lst [.str "a", .str "b"])), some (.da (.lst [.lst [], .lst []])), some (.da (.lst [.int 0, .int 1, .int 1, .int 1, .int 0, .int 9])), u, none, none, none, none, none, none, none]) ?_ ?_
  · walk_at "e"
    refine ite_ndec (fun h1 => ?_) fun h1 => ?_
    · walk_at "e"
      refine draw_in (by decide) (by decide) pu5.pu fun r o6 r0 r1 f6 => ?_
      obtain ⟨i, rfl⟩ := Int.eq_ofNat_of_zero_le r0
      have hi : i < 6 := by omega
      have e : [D.str "", .str "A", .str "if", .str "1a", .str "abcdefghijklm", .str "a b"][i]? = some (.str (oddL.getD i "")) := by
        match i, hi with
        | 0, _ => rfl
        | 1, _ => rfl
        | 2, _ => rfl
        | 3, _ => rfl
        | 4, _ => rfl
        | 5, _ => rfl
      refine o_ix (d := .str (oddL.getD i "")) (atI_of (j := i) (by show (if (0 : Int) ≤ i then (if (i : Int) < (6 : Nat) then some (i : Int).toNat else none) else _) = _; rw [if_pos r0, if_pos (by omega)]; rfl) e) ?_
      walk_at "e"
      have hodd : (oddL.getD i "").length ≤ 1000 := by
        match i, hi with
        | 0, _ => exact slit
        | 1, _ => exact slit
        | 2, _ => exact slit
        | 3, _ => exact slit
        | 4, _ => exact slit
        | 5, _ => exact slit
      refine ask_bad (mkAsk (low := some 2) (high := some 1) k0 k8 hodd slit hlo) (t6 n hn (by omega) i hi) fun o7 f7 => ?_
      walk_at "e"
      refine o_neSame rfl dep2 ?_
      walk_at "e"
      exact ⟨(pu5.trans f6).ofFp f7, _, rfl⟩
    · walk_at "e"
      exact ⟨pu5, _, rfl⟩
  rintro ρ6 o6 ⟨g6, u, rfl⟩
  refine s_cut (fun ρ' o' => Fj j o o' ∧ ∃ v, ρ' = [some (.ow j), some (.da (.int n)), some (.da (.lst [.str "a", .str "b"])), some (.da (.lst [.lst [], .lst []])), some (.da (.lst [.int 0, .int 1, .int 1, .int 1, .int 0, .int 9])), u, v, none, none, none, none, none, none]) ?_ ?_
  · walk_at "e"
    refine ite_dec (fun h1 => ?_) fun h1 => ?_
    · walk_at "e"
      refine ask_ok (mkAsk (low := some 0) (high := some 1) k0 k8 slit slit hlo) (t7 n (by omega)) fun o7 f7 => ?_
      walk_at "e"
      refine o_ixT at0 ?_
      walk_at "e"
      refine o_neSame rfl (by simp [D.py, PyData.depth]) ?_
      walk_at "e"
      refine ask_bad (mkAsk (low := some 0) (high := some 1) k0 k8 slit slit hlo) (t8 n (by omega)) fun o8 f8 => ?_
      walk_at "e"
      refine o_neSame rfl dep2 ?_
      walk_at "e"
      exact ⟨(g6.ofFp f7).ofFp f8, _, rfl⟩
    · walk_at "e"
      exact ⟨g6, _, rfl⟩
  rintro ρ7 o7 ⟨g7, v, rfl⟩
  refine s_seq (s_chk (fun o' => Fj j o o') ?_ fun o8 g8 => ?_)
  · walk_at "e"
    refine o_inL rfl rfl (by simp [D.py, PyData.depth]) ⟨_, rfl, ite_b (fun h1 => ?_) fun h1 => ⟨rfl, g7⟩⟩
    walk_at "e"
    refine ask_bad (mkAsk (low := some 0) (high := some 1) k0 k8 slit slit hlo) (t9 n hn h1) fun o8 f8 => ?_
    walk_at "e"
    refine o_neSame rfl dep2 ?_
    exact ⟨_, rfl, rfl, g7.ofFp f8⟩
  walk_at "e"
  refine o_addL (ds := (wrongL.take 5).map fun (ws : List (Option Int × Option Int × Int)) => D.lst (ws.map w3)) (es := (wrongL.drop 5).map fun (ws : List (Option Int × Option Int × Int)) => D.lst (ws.map w3)) rfl rfl (sizeBig (by decide)) ?_
  rw [← List.map_append, List.take_append_drop]
  refine g_name ?_
  have ixW : ∀ {α : Type} (l : List α), l.length = 9 → ixN l.length (n : Int) = some n := fun l hl => by
    unfold ixN
    rw [if_pos k0, if_pos (by omega)]
    rfl
  refine s_cut (fun ρ' o' => Fj j o o' ∧ ∃ x, ρ' = [some (.ow j), some (.da (.int n)), some (.da (.lst [.str "a", .str "b"])), some (.da (.lst [.lst [], .lst []])), some (.da (.lst [.int 0, .int 1, .int 1, .int 1, .int 0, .int 9])), u, v, some (.da (.lst (wrongL.map fun ws => D.lst (ws.map w3)))), x, none, none, none, none]) ?_ ?_
  · refine s_for ?_
    refine e_op (e_var rfl (e_var rfl ?_))
    have wl : n < wrongL.length := hn
    refine o_ix (d := D.lst ((wrongL.getD n []).map w3)) (atI_of (j := n) (ixW _ rfl) ?_) ?_
    · rw [List.getElem?_map, List.getElem?_eq_getElem wl, List.getD_eq_getElem?_getD, List.getElem?_eq_getElem wl]
      rfl
    refine ⟨_, rfl, fun i ρ' o' => Fj j o o' ∧ ∃ x, ρ' = [some (.ow j), some (.da (.int n)), some (.da (.lst [.str "a", .str "b"])), some (.da (.lst [.lst [], .lst []])), some (.da (.lst [.int 0, .int 1, .int 1, .int 1, .int 0, .int 9])), u, v, some (.da (.lst (wrongL.map fun ws => D.lst (ws.map w3)))), x, none, none, none, none], ⟨g8, _, rfl⟩, ?_, fun ρ' o' q => q⟩
    rintro i d ρ' o' hd ⟨g9, x, rfl⟩
    rw [List.getElem?_map] at hd
    obtain ⟨w, hw, rfl⟩ := Option.map_eq_some_iff.mp hd
    have tw := t10 n hn w (List.mem_of_getElem? hw)
    obtain ⟨w0, w1, w2⟩ := w
    unfold w3
    refine g_name ?_
    walk_at "e"
    refine o_addL (ds := [optD w0, optD w1, .int w2]) (es := [.int 1, .int 0, .int 9]) rfl rfl (sizeBig (Nat.le_of_ble_eq_true rfl)) ?_
    walk_at "e"
    refine ask_bad (mkAsk (low := w0) (high := w1) (mn := w2) (helper := 1) (least := 0) (most := 9) k0 k8 slit slit (fun h4 => ?_)) tw fun o10 f10 => ?_
    · have h4' : n = 4 := by omega
      subst h4'
      have hw' : (w0, w1, w2) ∈ [((some 0, some 1, -1) : Option Int × Option Int × Int)] := List.mem_of_getElem? hw
      have := List.mem_singleton.mp hw'
      cases this
      exact ⟨_, rfl⟩
    walk_at "e"
    refine o_neSame rfl dep2 ?_
    walk_at "e"
    exact ⟨g9.ofFp f10, _, rfl⟩
  rintro ρ9 o9 ⟨g9, x, rfl⟩
  refine s_seq (s_asg (e_op (e_op (e_int (e_int (o_pow ⟨by decide, by decide, by decide⟩ (e_int (o_add (g_name ?_)))))))))
  rw [show ((10 : Int) ^ (9 : Int).toNat + 1) = 1000000001 by decide]
  refine s_seq (s_asg ?_)
  walk_at "e"
  refine ⟨partL.map fun (ps : List Nat) => D.lst (ps.map fun (p : Nat) => D.int (p : Int)), rfl, sizeBig (Nat.le_of_ble_eq_true rfl), g_name ?_⟩
  refine s_cut (fun ρ' o' => Fj j o o') ?_ ?_
  · refine s_for ?_
    refine e_op (e_var rfl (e_var rfl ?_))
    have wl : n < partL.length := hn
    refine o_ix (d := D.lst ((partL.getD n []).map fun (p : Nat) => D.int (p : Int))) (atI_of (j := n) (ixW _ rfl) ?_) ?_
    · rw [List.getElem?_map, List.getElem?_eq_getElem wl, List.getD_eq_getElem?_getD, List.getElem?_eq_getElem wl]
      rfl
    refine ⟨_, rfl, fun i ρ' o' => Fj j o o' ∧ ∃ y z, ρ' = [some (.ow j), some (.da (.int n)), some (.da (.lst [.str "a", .str "b"])), some (.da (.lst [.lst [], .lst []])), some (.da (.lst [.int 0, .int 1, .int 1, .int 1, .int 0, .int 9])), u, v, some (.da (.lst (wrongL.map fun ws => D.lst (ws.map w3)))), x, some (.da (.int 1000000001)), some (.da (.lst (partL.map fun (ps : List Nat) => D.lst (ps.map fun (p : Nat) => D.int (p : Int))))), y, z], ⟨g9, _, _, rfl⟩, ?_, fun ρ' o' q => q.1⟩
    rintro i d ρ' o' hd ⟨g10, y, z, rfl⟩
    rw [List.getElem?_map] at hd
    obtain ⟨p, hp, rfl⟩ := Option.map_eq_some_iff.mp hd
    have hm := List.mem_of_getElem? hp
    have hp5 := t13 n hn p hm
    have a1 := t11 n hn p hm
    have a2 := t12 n hn p hm
    have ol := g10.len
    refine g_name (s_seq (s_asg (e_cb (a_cons (e_var rfl (a_nil (n_listO (ss := [.da (.int 0), .da (.int 1), .da (.int 1), .da (.int 1), .da (.int 0), .da (.int 9)]) rfl (g_name ?_))))))))
    have g11 := g10.add [.lst [.da (.int 0), .da (.int 1), .da (.int 1), .da (.int 1), .da (.int 0), .da (.int 9)]]
    have setLo : ∀ lo lo' : Int, (R0 lo p).set p (.da (.int lo')) = R0 lo' p := fun lo lo' => by
      unfold R0
      rw [List.set_set]
    refine s_cut (fun ρ2 o2 => ρ2 = [some (.ow j), some (.da (.int n)), some (.da (.lst [.str "a", .str "b"])), some (.da (.lst [.lst [], .lst []])), some (.da (.lst [.int 0, .int 1, .int 1, .int 1, .int 0, .int 9])), u, v, some (.da (.lst (wrongL.map fun ws => D.lst (ws.map w3)))), x, some (.da (.int 1000000001)), some (.da (.lst (partL.map fun (ps : List Nat) => D.lst (ps.map fun (p : Nat) => D.int (p : Int))))), some (.da (.int p)), some (.ow o'.length)] ∧ o2 = o' ++ [.lst (R0 (if p = 0 then -1000000001 else 1000000001) p)]) ?_ ?_
    · refine s_asg (e_if ?_)
      walk_at "e"
      have q0 : ixN ([Sl.da (.int 0), Sl.da (.int 1), Sl.da (.int 1), Sl.da (.int 1), Sl.da (.int 0), Sl.da (.int 9)]).length (p : Int) = some p := by rcases hp5 with rfl | rfl | rfl | rfl | rfl <;> rfl
      refine ite_ndec (fun h1 => ?_) fun h1 => ?_
      · refine e_var rfl (g_set (e_var rfl (e_var rfl ⟨o'.length, _, _, p, rfl, rfl, get_new, q0, rfl, ?_⟩)))
        rw [set_new, if_neg (by omega)]
      · refine e_un (e_var rfl (o_neg (g_set (e_var rfl (e_var rfl ⟨o'.length, _, _, p, rfl, rfl, get_new, q0, rfl, ?_⟩)))))
        rw [set_new, if_pos (by omega)]
    rintro ρ2 o2 ⟨rfl, rfl⟩
    have gA := g10.add [.lst (R0 (if p = 0 then -1000000001 else 1000000001) p)]
    obtain ⟨x0, x1, x2, x3, x4, x5⟩ := far_at (if p = 0 then -1000000001 else 1000000001) p hp5
    have LA : LL (o' ++ [.lst (R0 (if p = 0 then -1000000001 else 1000000001) p)]) (.ow o'.length) (R0 (if p = 0 then -1000000001 else 1000000001) p) := get_new
    refine s_seq (s_if ?_)
    walk_at "e"
    refine ask_many (a := "") (b := "b") (yes := []) (no := []) ⟨k0, k8, slit, slit, rfl, ⟨_, LA, x0, x1, x2, x3, fun _ => ⟨x4, x5⟩⟩, hlo, fun _ => ⟨_, _, rfl, rfl, rfl⟩⟩ a1 fun o3 p3 => ?_
    walk_at "e"
    refine o_neSame rfl dep2 ⟨_, rfl, ite_ff (s_next ?_)⟩
    have LB : o3[o'.length]? = some (.lst (R0 (if p = 0 then -1000000001 else 1000000001) p)) := p3.get get_new
    have gB := gA.ofFp p3
    refine s_cut (fun ρ2 o2 => ρ2 = [some (.ow j), some (.da (.int n)), some (.da (.lst [.str "a", .str "b"])), some (.da (.lst [.lst [], .lst []])), some (.da (.lst [.int 0, .int 1, .int 1, .int 1, .int 0, .int 9])), u, v, some (.da (.lst (wrongL.map fun ws => D.lst (ws.map w3)))), x, some (.da (.int 1000000001)), some (.da (.lst (partL.map fun (ps : List Nat) => D.lst (ps.map fun (p : Nat) => D.int (p : Int))))), some (.da (.int p)), some (.ow o'.length)] ∧ o2 = o3.set o'.length (.lst (R0 (if p = 0 then -1000000000 else 1000000000) p))) ?_ ?_
    · refine s_asg (e_op (e_op (e_var rfl (e_var rfl (o_ixL LB (far_p _ p hp5).1 (e_if ?_))))))
      walk_at "e"
      refine ite_dec (fun h1 => ?_) fun h1 => ?_
      · refine e_int (o_add (g_set (e_var rfl (e_var rfl ⟨o'.length, _, _, p, rfl, rfl, LB, (far_p _ p hp5).2, rfl, ?_⟩))))
        rw [setLo, if_pos (by omega), if_pos (by omega)]
        rfl
      · refine e_un (e_int (o_neg (o_add (g_set (e_var rfl (e_var rfl ⟨o'.length, _, _, p, rfl, rfl, LB, (far_p _ p hp5).2, rfl, ?_⟩))))))
        rw [setLo, if_neg (by omega), if_neg (by omega)]
        rfl
    rintro ρ2 o2 ⟨rfl, rfl⟩
    obtain ⟨x0, x1, x2, x3, x4, x5⟩ := far_at (if p = 0 then -1000000000 else 1000000000) p hp5
    have LC : LL (o3.set o'.length (.lst (R0 (if p = 0 then -1000000000 else 1000000000) p))) (.ow o'.length) (R0 (if p = 0 then -1000000000 else 1000000000) p) := List.getElem?_set_self (List.getElem?_eq_some_iff.mp LB).1
    have gC := gB.set (u := .lst (R0 (if p = 0 then -1000000000 else 1000000000) p)) jl ol
    refine s_if ?_
    walk_at "e"
    refine ask_ok (a := "a") (b := "b") (yes := []) (no := []) ⟨k0, k8, slit, slit, rfl, ⟨_, LC, x0, x1, x2, x3, fun _ => ⟨x4, x5⟩⟩, hlo, fun _ => ⟨_, _, rfl, rfl, rfl⟩⟩ a2 fun o4 p4 => ?_
    walk_at "e"
    refine o_ixT at0 ?_
    walk_at "e"
    refine o_neSame rfl (by simp [D.py, PyData.depth]) ⟨_, rfl, ite_ff (s_next ?_)⟩
    exact ⟨gC.ofFp p4, _, _, rfl⟩
  rintro ρ10 o10 g10
  walk_at "e"
  exact h _ g10
end K03
end AB

set_option Elab.async false
set_option linter.all false
set_option maxRecDepth 100000
set_option maxHeartbeats 4000000
set_option autoImplicit false
namespace AB
open PySem L2 PySem.Spec PyProof.Rows He
namespace K03
local macro_rules | `(tactic| walk_at "e") => `(tactic| repeat' (first
  | (with_reducible refine s_seq ?_) | (with_reducible refine s_if ?_) | (with_reducible refine s_drop ?_) | (with_reducible refine s_ret ?_) | (with_reducible refine s_next ?_) | (with_reducible refine s_asg ?_)
  | (with_reducible refine g_name ?_)
  | (with_reducible refine t_test ?_) | (with_reducible refine t_B ?_) | (with_reducible refine t_or ?_) | (with_reducible refine t_and ?_) | (with_reducible refine t_not ?_)
  | ((with_reducible apply e_var); rfl) | (with_reducible refine e_int ?_) | (with_reducible refine e_str ?_) | (with_reducible refine e_bl ?_) | (with_reducible refine e_non ?_)
  | (with_reducible refine e_raw ?_) | (with_reducible refine ite_tt ?_) | (with_reducible refine ite_ff ?_) | (with_reducible refine ite_ntt ?_) | (with_reducible refine ite_nff ?_) | (with_reducible refine n_isiS ?_) | (with_reducible refine n_isiL ?_) | (with_reducible refine n_isiT ?_)
  | (with_reducible refine e_op ?_) | (with_reducible refine e_un ?_) | (with_reducible refine e_cb ?_) | (with_reducible refine e_callA ?_) | (with_reducible refine e_andV ?_) | (with_reducible refine e_if ?_)
  | (with_reducible refine a_cons ?_) | (with_reducible refine a_nil ?_)
  | (with_reducible refine o_gt ?_) | (with_reducible refine o_lt ?_) | (with_reducible refine o_le ?_) | (with_reducible refine o_ge ?_) | (with_reducible refine o_add ?_) | (with_reducible refine o_sub ?_) | (with_reducible refine o_neg ?_)
  | (with_reducible refine e_tup ?_) | (with_reducible refine e_lst ?_) | (with_reducible refine exd0 ?_) | (with_reducible refine exd1 ?_) | (with_reducible refine exd2 ?_) | (with_reducible refine exd3 ?_) | (with_reducible refine exd4 ?_) | (with_reducible refine exd5 ?_) | (with_reducible refine exd6 ?_)
  | (with_reducible refine o_isNotI ?_) | (with_reducible refine o_isNotN ?_) | (with_reducible refine o_isNotS ?_) | (with_reducible refine o_isI ?_) | (with_reducible refine o_isN ?_) | (with_reducible refine o_isS ?_) | (with_reducible refine o_isT ?_)
  | (with_reducible refine t_yes ?_) | (with_reducible refine gw_name (by decide) ?_)
  | (with_reducible refine s_par ?_) | (with_reducible refine ex2 ?_) | (with_reducible refine o_eqI ?_) | (with_reducible refine o_neI ?_) | (with_reducible refine o_ixL (by assumption) (by assumption) ?_)
  | (with_reducible refine e_sl ?_) | (with_reducible refine l_none ?_) | (with_reducible refine l_some ?_)
  | (with_reducible refine n_list (by assumption) ?_)
  | (with_reducible refine cat_in2 (by first | assumption | omega) (by omega) (by omega) ?_) | (with_reducible refine s_par3 ?_) | (with_reducible refine ex3 ?_)
  | (with_reducible refine cat_in (by first | assumption | omega) (by omega) (by omega) ?_)
  | (with_reducible refine ite_dec (fun h => absurd h (by decide)) (fun _ => ?_)) | (with_reducible refine ite_dec (fun _ => ?_) (fun h => absurd (by decide) h))
  | (with_reducible refine Exists.intro _ (And.intro rfl ?_))))
local macro_rules | `(tactic| walk_at "st") => `(tactic| simp only [List.map_cons, List.map_nil, List.length_cons, List.length_nil, Nat.reduceAdd, Nat.reduceSub, List.replicate, List.cons_append, List.nil_append])
variable {K : PySem.W.Frag} {B : Base} {W : WX} {ss : List Sl} {o : O} {Rt : Sl → O → Prop} {Xt : Addr → List (Str × D) → O → Prop}
theorem isW_parts {w : Str} (h : isW w = true) : isB w ∧ 1 ≤ w.length ∧ w.length ≤ 12 ∧ w ≠ ("if" : Str) ∧ w ≠ ("unless" : Str) := by
  unfold isW at h
  simp only [Bool.and_eq_true, decide_eq_true_eq, Bool.not_eq_true', Bool.or_eq_false_iff, decide_eq_false_iff_not] at h
  exact ⟨⟨h.2.1, h.2.2.2⟩, h.1.1, h.1.2, h.2.2.1.1, h.2.2.1.2⟩
theorem str_ext {x y : Str} (h : x.cps.toList = y.cps.toList) : x = y := by
  cases x
  cases y
  congr 1
  exact Array.toList_inj.mp h
theorem cut9 (s : Str) : (cutS s none (some 9)).cps.toList = s.cps.toList.take 9 := by
  unfold cutS HT.sIx Str.length
  simp
theorem isB.cut9 {s : Str} (h : isB s) : isB (cutS s none (some 9)) := by
  obtain ⟨h1, h2⟩ := h
  refine ⟨?_, ?_⟩
  · rw [K03.cut9]
    cases e : s.cps.toList with
    | nil => rw [e] at h1; simp at h1
    | cons c r => rw [e] at h1; exact h1
  · rw [K03.cut9]
    rw [List.all_eq_true] at h2 ⊢
    exact fun x hx => h2 x (List.mem_of_mem_take hx)
theorem cut9W {w : Str} (h : isW w = true) : isW (cutS w none (some 9)) = true ∧ isB (cutS w none (some 9)) ∧ 1 ≤ (cutS w none (some 9)).length ∧ (cutS w none (some 9)).length ≤ 9 := by
  obtain ⟨b, l1, l2, k1, k2⟩ := isW_parts h
  have hl : (cutS w none (some 9)).length = min 9 w.length := by rw [len_toList, cut9, List.length_take, ← len_toList]
  have same : w.length ≤ 9 → cutS w none (some 9) = w := fun q => str_ext (by rw [cut9, List.take_of_length_le (by rw [← len_toList]; exact q)])
  have e2 : (("if" : Str)).length = 2 := by decide +kernel
  have e6 : (("unless" : Str)).length = 6 := by decide +kernel
  have n1 : cutS w none (some 9) ≠ ("if" : Str) := fun z => by
    have := congrArg Str.length z
    rw [hl, e2] at this
    rw [same (by omega)] at z
    exact k1 z
  have n2 : cutS w none (some 9) ≠ ("unless" : Str) := fun z => by
    have := congrArg Str.length z
    rw [hl, e6] at this
    rw [same (by omega)] at z
    exact k2 z
  refine ⟨b.cut9.w (by omega) (by omega) ?_, b.cut9, by omega, by omega⟩
  rw [decide_eq_false n1, decide_eq_false n2]
  rfl
theorem kwDot {s : Str} (h : 46 ∈ s.cps.toList) : (decide (s = ("if" : Str)) || decide (s = ("unless" : Str))) = false := by
  have h1 : s ≠ ("if" : Str) := fun e => by
    rw [e] at h
    exact absurd h (by decide +kernel)
  have h2 : s ≠ ("unless" : Str) := fun e => by
    rw [e] at h
    exact absurd h (by decide +kernel)
  rw [decide_eq_false h1, decide_eq_false h2]
  rfl
theorem atW {s : Str} {t : Int} (b : isB s) (l1 : 1 ≤ s.length) (l2 : s.length ≤ 9) (h0 : 0 ≤ t) (h1 : t ≤ 24) : isW (atM s t) = true := by
  obtain ⟨n, rfl⟩ := Int.eq_ofNat_of_zero_le h0
  have hn : n < 60 := by omega
  have d1 : ((("." : String) : Str)).cps.toList = [46] := by decide +kernel
  have e : ((("." : String) : Str)).length = 1 := by decide +kernel
  have nl := num60 n hn
  refine ((b.app (y := ("." : Str)) (by rw [d1]; rfl)).app (numR n hn)).w ?_ ?_ (kwDot ?_)
  · rw [slen_app, slen_app]; omega
  · rw [slen_app, slen_app]; omega
  · rw [app_toList, app_toList, d1]
    simp
theorem numInj : ∀ n : Nat, n < 25 → ∀ m : Nat, m < 25 → ((toString (n : Int) : String) : Str) = ((toString (m : Int) : String) : Str) → n = m := by decide +kernel
theorem atInj {s : Str} {t u : Int} (t0 : 0 ≤ t) (t1 : t ≤ 24) (u0 : 0 ≤ u) (u1 : u ≤ 24) (h : atM s t = atM s u) : t = u := by
  obtain ⟨n, rfl⟩ := Int.eq_ofNat_of_zero_le t0
  obtain ⟨m, rfl⟩ := Int.eq_ofNat_of_zero_le u0
  have e := congrArg (fun z : Str => z.cps.toList) h
  unfold atM at e
  simp only [app_toList] at e
  have e2 := str_ext (List.append_cancel_left e)
  have := numInj n (by omega) m (by omega) e2
  omega
theorem pick2 {x : Int} {r : Int} (h0 : 0 ≤ r) (h1 : r < 2) : ∃ s : Option Int, atI [D.non, D.int x] r = some (optD s) ∧ (s = none ∨ s = some x) := by
  have : r = 0 ∨ r = 1 := by omega
  rcases this with rfl | rfl
  · exact ⟨none, rfl, .inl rfl⟩
  · exact ⟨some x, rfl, .inr rfl⟩
theorem lineKeys {a : Str} {first : Int} {slow fast : Option Int} {t : Int} {r : Row3} (h : r ∈ fLine a first slow fast t) : first < t ∧ ((r.1 = some (atM a (t - 1)) ∧ r.2.1 = some (atM a t)) ∨ (r.1 = some (atM a t) ∧ r.2.1 = some (atM a (t - 1)))) := by
  unfold fLine at h
  rcases List.mem_append.mp h with q | q
  · cases slow with
    | none => cases q
    | some i =>
      dsimp only at q
      split at q
      · rename_i hh
        rw [List.mem_singleton.mp q]
        exact ⟨hh, .inl ⟨rfl, rfl⟩⟩
      · cases q
  · cases fast with
    | none => cases q
    | some i =>
      dsimp only at q
      split at q
      · rename_i hh
        rw [List.mem_singleton.mp q]
        exact ⟨hh, .inr ⟨rfl, rfl⟩⟩
      · cases q
theorem keeps_congr {v v' : Str → Option Int} : ∀ {rows : List Row3}, (∀ r, r ∈ rows → okR v r = okR v' r) → keepsR v rows = keepsR v' rows
  | [], _ => rfl
  | r :: rs, h => by
    show (okR v r && keepsR v rs) = (okR v' r && keepsR v' rs)
    rw [h r List.mem_cons_self, keeps_congr fun x hx => h x (List.mem_cons_of_mem _ hx)]
/-- one more moment's value -/
theorem line_put {a : Str} {first last : Int} {slow fast : Option Int} {l : List (Key × D)} {k : Nat} {c : Int} (h0 : 0 ≤ first) (hk : first + k ≤ 24) : keepsR (look (putD l (.inr (atM a (first + k))) (.int c))) (rowsU (fLine a first slow fast) first k) = keepsR (look l) (rowsU (fLine a first slow fast) first k) := by
  refine keeps_congr fun r hr => ?_
  obtain ⟨i, hi, hx⟩ := mem_rowsU hr
  obtain ⟨h1, h2⟩ := lineKeys hx
  have ne : ∀ t : Int, first ≤ t → t < first + k → look (putD l (.inr (atM a (first + k))) (.int c)) (atM a t) = look l (atM a t) := fun t q1 q2 => by
    rw [look_put, if_neg (fun z => by have := atInj (by omega) (by omega) (by omega) (by omega) z; omega)]
  unfold okR
  rcases h2 with ⟨e1, e2⟩ | ⟨e1, e2⟩
  · rw [e1, e2]
    show (!decide ((look _ _).getD 0 + _ < (look _ _).getD 0)) = (!decide ((look _ _).getD 0 + _ < (look _ _).getD 0))
    rw [ne _ (by omega) (by omega), ne _ (by omega) (by omega)]
  · rw [e1, e2]
    show (!decide ((look _ _).getD 0 + _ < (look _ _).getD 0)) = (!decide ((look _ _).getD 0 + _ < (look _ _).getD 0))
    rw [ne _ (by omega) (by omega), ne _ (by omega) (by omega)]
theorem o_eqB {x y : Bool} {P : Sl → O → Prop} (p : P (.da (.bl (x == y))) o) : A2 B (rEqP K) (.da (.bl x)) (.da (.bl y)) o P := o_eq rfl rfl (by simp [D.py, PyData.depth]) p
theorem o_neB {x y : Bool} {P : Sl → O → Prop} (p : P (.da (.bl (!(x == y)))) o) : A2 B (rNeP K) (.da (.bl x)) (.da (.bl y)) o P := o_ne rfl rfl (by simp [D.py, PyData.depth]) p
theorem py_side (yes no : List Str) (r : Row3) : (side yes no r).py.plain = true ∧ (side yes no r).py.depth ≤ 5 := by
  have p1 : ∀ s : Option Str, (optS s).py.plain = true := fun s => by cases s <;> rfl
  have d1 : ∀ s : Option Str, (optS s).py.depth ≤ 1 := fun s => by cases s <;> simp [optS, D.py, PyData.depth]
  have dt : ∀ l : List Str, PyData.depthAll (D.pyL (txs l)) ≤ 1 := fun l => depthL fun d hd => by
    unfold txs at hd
    obtain ⟨s, _, rfl⟩ := List.mem_map.mp hd
    simp [D.py, PyData.depth]
  refine ⟨?_, ?_⟩
  · show ((optS r.1).py.plain && ((optS r.2.1).py.plain && (true && (PyData.plainAll (D.pyL (txs yes)) && (PyData.plainAll (D.pyL (txs no)) && true))))) = true
    rw [p1, p1, py_txs, py_txs]
    rfl
  · have a1 := d1 r.1
    have a2 := d1 r.2.1
    have a3 := dt yes
    have a4 := dt no
    simp only [side, D.py, D.pyL, PyData.depth, PyData.depthAll]
    omega
end K03
end AB

set_option Elab.async false
set_option linter.all false
set_option maxRecDepth 100000
set_option maxHeartbeats 4000000
set_option autoImplicit false
namespace AB
open PySem L2 PySem.Spec PyProof.Rows He
namespace K03
local macro_rules | `(tactic| walk_at "e") => `(tactic| repeat' (first
  | (with_reducible refine s_seq ?_) | (with_reducible refine s_if ?_) | (with_reducible refine s_drop ?_) | (with_reducible refine s_ret ?_) | (with_reducible refine s_next ?_) | (with_reducible refine s_asg ?_)
  | (with_reducible refine g_name ?_)
  | (with_reducible refine t_test ?_) | (with_reducible refine t_B ?_) | (with_reducible refine t_or ?_) | (with_reducible refine t_and ?_) | (with_reducible refine t_not ?_)
  | ((with_reducible apply e_var); rfl) | (with_reducible refine e_int ?_) | (with_reducible refine e_str ?_) | (with_reducible refine e_bl ?_) | (with_reducible refine e_non ?_)
  | (with_reducible refine e_raw ?_) | (with_reducible refine ite_tt ?_) | (with_reducible refine ite_ff ?_) | (with_reducible refine ite_ntt ?_) | (with_reducible refine ite_nff ?_) | (with_reducible refine n_isiS ?_) | (with_reducible refine n_isiL ?_) | (with_reducible refine n_isiT ?_)
  | (with_reducible refine e_op ?_) | (with_reducible refine e_un ?_) | (with_reducible refine e_cb ?_) | (with_reducible refine e_callA ?_) | (with_reducible refine e_andV ?_) | (with_reducible refine e_if ?_)
  | (with_reducible refine a_cons ?_) | (with_reducible refine a_nil ?_)
  | (with_reducible refine o_gt ?_) | (with_reducible refine o_lt ?_) | (with_reducible refine o_le ?_) | (with_reducible refine o_ge ?_) | (with_reducible refine o_add ?_) | (with_reducible refine o_sub ?_) | (with_reducible refine o_neg ?_)
  | (with_reducible refine e_tup ?_) | (with_reducible refine e_lst ?_) | (with_reducible refine exd0 ?_) | (with_reducible refine exd1 ?_) | (with_reducible refine exd2 ?_) | (with_reducible refine exd3 ?_) | (with_reducible refine exd4 ?_) | (with_reducible refine exd5 ?_) | (with_reducible refine exd6 ?_)
  | (with_reducible refine o_isNotI ?_) | (with_reducible refine o_isNotN ?_) | (with_reducible refine o_isNotS ?_) | (with_reducible refine o_isI ?_) | (with_reducible refine o_isN ?_) | (with_reducible refine o_isS ?_) | (with_reducible refine o_isT ?_)
  | (with_reducible refine t_yes ?_) | (with_reducible refine gw_name (by decide) ?_)
  | (with_reducible refine s_par ?_) | (with_reducible refine ex2 ?_) | (with_reducible refine o_eqI ?_) | (with_reducible refine o_neI ?_) | (with_reducible refine o_ixL (by assumption) (by assumption) ?_)
  | (with_reducible refine e_sl ?_) | (with_reducible refine l_none ?_) | (with_reducible refine l_some ?_)
  | (with_reducible refine n_list (by assumption) ?_)
  | (with_reducible refine cat_in2 (by first | assumption | omega) (by omega) (by omega) ?_) | (with_reducible refine s_par3 ?_) | (with_reducible refine ex3 ?_)
  | (with_reducible refine cat_in (by first | assumption | omega) (by omega) (by omega) ?_)
  | (with_reducible refine ite_dec (fun h => absurd h (by decide)) (fun _ => ?_)) | (with_reducible refine ite_dec (fun _ => ?_) (fun h => absurd (by decide) h))
  | (with_reducible refine Exists.intro _ (And.intro rfl ?_))))
local macro_rules | `(tactic| walk_at "st") => `(tactic| simp only [List.map_cons, List.map_nil, List.length_cons, List.length_nil, Nat.reduceAdd, Nat.reduceSub, List.replicate, List.cons_append, List.nil_append])
variable {K : PySem.W.Frag} {B : Base} {W : WX} {ss : List Sl} {o : O} {Rt : Sl → O → Prop} {Xt : Addr → List (Str × D) → O → Prop}
theorem lineLen {a : Str} {first : Int} {slow fast : Option Int} (t : Int) : (fLine a first slow fast t).length ≤ 2 := by
  by_cases hh : first < t <;> cases slow <;> cases fast <;> simp [fLine, hh]
def fL2 (a : Str) (slow fast : Option Int) (t : Int) : List Row3 := (match slow with
  | some l => [(some (atM a (t - 1)), some (atM a t), -l)]
  | none => []) ++ (match fast with
  | some h => [(some (atM a t), some (atM a (t - 1)), h)]
  | none => [])
theorem w__law_lined (hB : B.θ.length = o.length) (c : c__law_lined K ss o Rt Xt) : Wf (r__law_lined K W) 16 B ss o Rt := by
  obtain ⟨j, rfl, pu, h⟩ := c
  have jl := pu.lt
  unfold Wf r__law_lined
  walk_at "st"
  walk_at "e"
  refine ⟨j, .da (.lst []), [], rfl, pu, (fun z => by cases z), rfl, fun w o1 hw f1 => ?_⟩
  obtain ⟨nw, nb, n1, n9⟩ := cut9W hw
  walk_at "e"
  refine sl_str (sizeBig (by have := (isW_parts hw).2.2.1; omega)) (g_name ?_)
  generalize hname : cutS w none (some 9) = name at nw nb n1 n9
  walk_at "e"
  refine ⟨j, rfl, f1.pu, fun first last o2 h0 h1 h2 f2 => ?_⟩
  refine g_unL (ss := [.da (.int first), .da (.int last)]) rfl rfl (g_cons (g_name (g_cons (g_name (g_nil ?_)))))
  have f12 := f1.trans f2
  walk_at "e"
  refine draw_in (by decide) (by decide) f12.pu fun r1 o3 a0 a1 f3 => ?_
  walk_at "e"
  refine draw_in (by decide) (by decide) f3.pu fun r2 o4 b0 b1 f4 => ?_
  obtain ⟨slow, hs, hslow⟩ := pick2 (x := r1 - 2) b0 b1
  refine o_ix hs (g_name ?_)
  have f14 := (f12.trans f3).trans f4
  walk_at "e"
  refine draw_in (by decide) (by decide) f14.pu fun r3 o5 c0 c1 f5 => ?_
  walk_at "e"
  refine draw_in (by decide) (by decide) f5.pu fun r4 o6 d0 d1 f6 => ?_
  obtain ⟨fast, hf, hfast⟩ := pick2 (x := 2 + r3) d0 d1
  refine o_ix hf (g_name ?_)
  have f16 := (f14.trans f5).trans f6
  walk_at "e"
  refine draw_in (by decide) (by decide) f16.pu fun r5 o7 i0 i1 f7 => o_add (g_name ?_)
  have f17 := f16.trans f7
  walk_at "e"
  refine ⟨j, 4, rfl, f17.pu, by decide, by decide, fun e0 o8 p0 p1 f8 => ?_⟩
  walk_at "e"
  refine ⟨j, 4, rfl, f8.pu, by decide, by decide, fun e1 o9 q0 q1 f9 => ?_⟩
  have f19 := (f17.trans f8).trans f9
  walk_at "e"
  refine o_ix at0 ?_
  walk_at "e"
  refine o_ix at1 ?_
  walk_at "e"
  generalize hh : 1 + r5 = helper
  have sl1 : farN slow = false := by
    rcases hslow with rfl | rfl
    · rfl
    · exact farS (by omega) (by omega)
  have fa1 : farN fast = false := by
    rcases hfast with rfl | rfl
    · rfl
    · exact farS (by omega) (by omega)
  have bz : belowZ fast = false := by
    rcases hfast with rfl | rfl
    · rfl
    · exact decide_eq_false (by omega)
  have cz : crossd slow fast = false := by
    rcases hslow with rfl | rfl
    · rfl
    · rcases hfast with rfl | rfl
      · rfl
      · exact decide_eq_false (by omega)
  have at24 : isW (atM name last) = true := atW nb n1 n9 (by omega) h2
  have c6 : (callS 6 name "" first last slow fast 0 helper e0 e1 [] []).1 = .ok :=
    chk_of h2 (by simp [List.any, farS p0 p1, farS q0 q1, sl1, fa1]) h0 h1 (by simp [nw, at24]) (by rw [bz, cz]; rfl)
  have e00 : ((("" : String) : Str)).length ≤ 1000 := by decide +kernel
  have nl : name.length ≤ 1000 := by omega
  refine ask_ok (mkAsk (low := slow) (high := fast) (by decide) (by decide) nl e00 (fun z => by omega)) c6 fun o10 p10 => g_name ?_
  have f20 := f19.ofFp p10
  -- the rows
  refine s_seq (s_asg (e_lcR2 ?_))
  walk_at "e"
  refine ⟨first, last + 1, rfl, by omega, fun k acc o' => o' = o10 ∧ acc = rowsU (dLine name helper e0 e1) first k ∧ k ≤ 25, ⟨rfl, rfl, by omega⟩, ?_, ?_, ?_⟩
  · rintro k acc o' ⟨rfl, rfl, hk⟩
    have := rowsU_len (f := dLine name helper e0 e1) (first := first) (fun t => by simp [dLine]) k
    omega
  · rintro k acc o' hk ⟨rfl, rfl, _⟩
    have kk : (k : Int) ≤ last - first := by omega
    walk_at "e"
    refine o_ix at0 ?_
    walk_at "e"
    refine o_ix at1 ?_
    walk_at "e"
    refine ⟨rfl, ?_, by omega⟩
    rw [rowsU_succ]
    rfl
  rintro acc o' ⟨rfl, rfl, _⟩
  refine g_name ?_
  have hm1 : (last + 1 - first).toNat = many first last := rfl
  rw [hm1]
  generalize hdecs : rowsU (dLine name helper e0 e1) first (many first last) = decs
  -- the rules
  refine s_seq (s_asg (e_lstO (a_nil ⟨Nat.zero_le _, g_name ?_⟩)))
  refine s_seq (s_range2 ?_)
  walk_at "e"
  have init0 : rowsU (fLine name first slow fast) first 1 = [] := by
    show fLine name first slow fast (first + (0 : Nat)) ++ [] = []
    cases slow <;> cases fast <;> simp [fLine]
  refine ⟨first + 1, last + 1, rfl, by omega, fun k ρ' o'' => k ≤ 25 ∧ (∃ t : Option Sl, ρ' = [some (.ow j), some (.da (.str name)), some (.da (.int first)), some (.da (.int last)), some (.da (optD slow)), some (.da (optD fast)), some (.da (.int helper)), some (.da (.lst [.int e0, .int e1])), some (.da (.tup [.str "let", (callS 6 name "" first last slow fast 0 helper e0 e1 [] []).2])), some (.da (.lst decs)), some (.ow o'.length), t, none, none, none, none]) ∧
    o'' = o' ++ [.lst (((rowsU (fLine name first slow fast) first (k + 1)).map (side [] [])).map Sl.da)], ⟨by omega, ⟨_, rfl⟩, by rw [init0]; rfl⟩, ?_, ?_⟩
  · rintro k ρ' o'' hk ⟨_, ⟨t, rfl⟩, rfl⟩
    have ek : first + 1 + (k : Int) = first + ((k + 1 : Nat) : Int) := by omega
    rw [ek]
    have kk : ((k + 1 : Nat) : Int) ≤ last - first := by omega
    generalize hk2 : k + 1 = m at *
    have fl : ((rowsU (fLine name first slow fast) first m).map (side [] [])).length ≤ 60 := by
      rw [List.length_map]
      have := rowsU_len (f := fLine name first slow fast) (first := first) lineLen m
      omega
    have ft : first < first + (m : Int) := by omega
    have fe : fLine name first slow fast (first + (m : Int)) = fL2 name slow fast (first + m) := by
      unfold fLine fL2
      cases slow <;> cases fast <;> simp only [if_pos ft]
    refine g_name ?_
    generalize (callS 6 name "" first last slow fast 0 helper e0 e1 [] []).2 = toldD
    cases slow with
    | none =>
      dsimp only [optD]
      cases fast with
      | none =>
        dsimp only [optD]
        walk_at "e"
        exact ⟨by omega, ⟨_, rfl⟩, row_none fe⟩
      | some y =>
        dsimp only [optD]
        walk_at "e"
        refine e_app (acc := (rowsU (fLine name first none (some y)) first m).map (side [] [])) rfl get_new (by omega) ?_
        walk_at "e"
        exact ⟨rfl, by omega, ⟨_, rfl⟩, row_step (by rw [fe]; rfl)⟩
    | some x =>
      dsimp only [optD]
      walk_at "e"
      refine e_app (acc := (rowsU (fLine name first (some x) fast) first m).map (side [] [])) rfl get_new (by omega) ?_
      walk_at "e"
      refine ⟨rfl, ?_⟩
      rw [set_new]
      cases fast with
      | none =>
        dsimp only [optD]
        walk_at "e"
        refine ⟨by omega, ⟨_, rfl⟩, ?_⟩
        rw [← set_new (u := .lst (((rowsU (fLine name first (some x) none) first m).map (side [] [])).map Sl.da))]
        exact row_step (by rw [fe]; rfl)
      | some y =>
        dsimp only [optD]
        walk_at "e"
        refine e_app (acc := (rowsU (fLine name first (some x) (some y)) first m).map (side [] []) ++ [D.tup [.str (atM name (first + m - 1)), .str (atM name (first + m)), .int (-x), .lst [], .lst []]]) rfl get_new (by rw [List.length_append]; simp only [List.length_cons, List.length_nil]; omega) ?_
        walk_at "e"
        refine ⟨rfl, by omega, ⟨_, rfl⟩, ?_⟩
        rw [set_new, rowsU_succ, fe]
        simp only [List.map_append, List.append_assoc]
        rfl
  rintro ρ' o'' ⟨_, ⟨t, rfl⟩, rfl⟩
  have em : (last + 1 - (first + 1)).toNat + 1 = many first last := by unfold many; omega
  rw [em]
  refine s_frz 10 (j := o'.length) rfl (by have := f20.len; omega) get_new (.lst _) ?_
  rw [set_new]
  have f21 := f20.add [OO.gone]
  have c62 : (callS 6 name "" first last slow fast 0 helper e0 e1 [] []).2 = .tup [.lst decs, .lst ((rowsU (fLine name first slow fast) first (many first last)).map (side [] []))] := by
    rw [← hdecs]
    rfl
  rw [c62]
  walk_at "e"
  have pd : ∀ d, d ∈ decs → d.py.plain = true ∧ d.py.depth ≤ 5 := fun d hd => by
    rw [← hdecs] at hd
    obtain ⟨k, _, hx⟩ := mem_rowsU hd
    unfold dLine at hx
    rw [List.mem_singleton.mp hx]
    exact ⟨rfl, by simp [D.py, D.pyL, PyData.depth, PyData.depthAll]⟩
  have pr : ∀ d, d ∈ (rowsU (fLine name first slow fast) first (many first last)).map (side [] []) → d.py.plain = true ∧ d.py.depth ≤ 5 := fun d hd => by
    obtain ⟨r, _, rfl⟩ := List.mem_map.mp hd
    exact py_side _ _ _
  refine o_neSame (d := .tup [.str "let", .tup [.lst decs, .lst ((rowsU (fLine name first slow fast) first (many first last)).map (side [] []))]]) ?_ ?_ ⟨_, rfl, ite_ff (s_next ?_)⟩
  · show (true && ((PyData.plainAll (D.pyL _) && (PyData.plainAll (D.pyL _) && true)) && true)) = true
    rw [plainL fun d hd => (pd d hd).1, plainL fun d hd => (pr d hd).1]
    rfl
  · have a1 := depthL fun d hd => (pd d hd).2
    have a2 := depthL fun d hd => (pr d hd).2
    simp only [D.py, D.pyL, PyData.depth, PyData.depthAll]
    omega
  generalize hT : D.tup [.lst decs, .lst ((rowsU (fLine name first slow fast) first (many first last)).map (side [] []))] = toldV
  generalize hO : o' ++ [OO.gone] = O1 at f21 ⊢
  refine s_seq (s_asg (e_dnew (g_name ?_)))
  refine s_seq (s_asg (e_int (g_name ?_)))
  refine s_seq (s_asg (e_bl (g_name ?_)))
  refine s_seq (s_range2 ?_)
  walk_at "e"
  have f22 := f21.add [OO.dic []]
  have hN := f21.len
  refine ⟨first, last + 1, rfl, by omega, fun k ρ' o'' => k ≤ 25 ∧ Fj j o o'' ∧ ∃ (l : List (Key × D)) (cnt : Int) (t r : Option Sl), o''[O1.length]? = some (.dic (dsl l)) ∧ l.length ≤ k ∧ (∀ t, first ≤ t → t < first + k → ∃ v, look l (atM name t) = some v) ∧ (0 < k → look l (atM name (first + k - 1)) = some cnt) ∧
    ρ' = [some (.ow j), some (.da (.str name)), some (.da (.int first)), some (.da (.int last)), some (.da (optD slow)), some (.da (optD fast)), some (.da (.int helper)), some (.da (.lst [.int e0, .int e1])), some (.da (.tup [.str "let", toldV])), some (.da (.lst decs)), some (.da (.lst ((rowsU (fLine name first slow fast) first (many first last)).map (side [] [])))), t, some (.ow O1.length), some (.da (.int cnt)), some (.da (.bl (keepsR (look l) (rowsU (fLine name first slow fast) first k)))), r],
    ⟨by omega, f22, [], 0, _, _, get_new, Nat.le_refl _, (fun t a b => by omega), (fun z => by omega), rfl⟩, ?_, ?_⟩
  · rintro k ρ' o'' hk ⟨_, f23, l, cnt, t, r, hl, ll, hkeys, hlast, rfl⟩
    have kk : (k : Int) ≤ last - first := by omega
    refine g_name (s_seq (s_asg (e_op (e_callA ?_))))
    walk_at "e"
    refine draw_in (by decide) (by decide) f23.pu fun rr o3 r0 r1 f24 => e_int (o_sub (g_name ?_))
    generalize hrise : rr - 2 = rise
    walk_at "e"
    have f25 := f23.trans f24
    have hl3 := f24.at hl (by omega)
    refine s_dput (tv := tC .non) ?_
    walk_at "e"
    refine ⟨O1.length, dsl l, .inr (atM name (first + k)), rfl, rfl, hl3, size1000 (by rw [dsl_len]; omega), ?_⟩
    rw [putS_dsl]
    have hl4 : (o3.set O1.length (.dic (dsl (putD l (.inr (atM name (first + k))) (.int (cnt + rise))))))[O1.length]? = some (.dic (dsl (putD l (.inr (atM name (first + k))) (.int (cnt + rise))))) := List.getElem?_set_self (List.getElem?_eq_some_iff.mp hl3).1
    have f26 := f25.set (u := .dic (dsl (putD l (.inr (atM name (first + k))) (.int (cnt + rise))))) jl hN
    have k1 : look (putD l (.inr (atM name (first + k))) (.int (cnt + rise))) (atM name (first + k)) = some (cnt + rise) := by rw [look_put, if_pos rfl]
    have k2 : 0 < k → look (putD l (.inr (atM name (first + k))) (.int (cnt + rise))) (atM name (first + k - 1)) = some cnt := fun q => by
      rw [look_put, if_neg (fun z => by have := atInj (by omega) (by omega) (by omega) (by omega) z; omega)]
      exact hlast q
    have k3 : (putD l (.inr (atM name (first + k))) (.int (cnt + rise))).length ≤ k + 1 := by have := putD_len l (.inr (atM name (first + k))) (.int (cnt + rise)); omega
    have k4 : ∀ t, first ≤ t → t < first + ((k + 1 : Nat) : Int) → ∃ v, look (putD l (.inr (atM name (first + k))) (.int (cnt + rise))) (atM name t) = some v := fun t a b => by
      by_cases ht : t = first + k
      · subst ht
        exact ⟨_, k1⟩
      · exact some_put (hkeys t a (by omega))
    have k5 : keepsR (look (putD l (.inr (atM name (first + k))) (.int (cnt + rise)))) (rowsU (fLine name first slow fast) first (k + 1)) = (keepsR (look l) (rowsU (fLine name first slow fast) first k) && (fLine name first slow fast (first + k)).all (okR (look (putD l (.inr (atM name (first + k))) (.int (cnt + rise)))))) := by
      rw [keeps_succ, line_put (last := last) h0 (by omega)]
    have k6 : first + ((k + 1 : Nat) : Int) - 1 = first + k := by omega
    generalize putD l (.inr (atM name (first + k))) (.int (cnt + rise)) = l' at *
    generalize hmt : keepsR (look l) (rowsU (fLine name first slow fast) first k) = meant at *
    have key : AT B (tAnd (tTest (tOp rGtA (tVar 11) (tVar 2))) (tOr (tAnd (tTest (tOp rIsNotA (tVar 4) (tC .non))) (tTest (tOp rLtA (tVar 15) (tVar 4)))) (tAnd (tTest (tOp rIsNotA (tVar 5) (tC .non))) (tTest (tOp rGtA (tVar 15) (tVar 5))))))
        [some (.ow j), some (.da (.str name)), some (.da (.int first)), some (.da (.int last)), some (.da (optD slow)), some (.da (optD fast)), some (.da (.int helper)), some (.da (.lst [.int e0, .int e1])), some (.da (.tup [.str "let", toldV])), some (.da (.lst decs)), some (.da (.lst ((rowsU (fLine name first slow fast) first (many first last)).map (side [] [])))), some (.da (.int (first + k))), some (.ow O1.length), some (.da (.int (cnt + rise))), some (.da (.bl meant)), some (.da (.int rise))]
        (o3.set O1.length (.dic (dsl l'))) fun b o1 => o1 = o3.set O1.length (.dic (dsl l')) ∧ b = !((fLine name first slow fast (first + k)).all (okR (look l'))) := by
      by_cases ft : first < first + (k : Int)
      · have kp := k2 (by omega)
        have fe : fLine name first slow fast (first + (k : Int)) = fL2 name slow fast (first + k) := by
          unfold fLine fL2
          cases slow <;> cases fast <;> simp only [if_pos ft]
        have x1 : ∀ i : Int, okR (look l') (some (atM name (first + k - 1)), some (atM name (first + k)), -i) = !decide (rise < i) := fun i => by
          show (!decide ((look l' (atM name (first + k))).getD 0 + -i < (look l' (atM name (first + k - 1))).getD 0)) = _
          rw [k1, kp]
          congr 1
          exact decide_eq_decide.mpr (by show cnt + rise + -i < cnt ↔ _; omega)
        have x2 : ∀ i : Int, okR (look l') (some (atM name (first + k)), some (atM name (first + k - 1)), i) = !decide (i < rise) := fun i => by
          show (!decide ((look l' (atM name (first + k - 1))).getD 0 + i < (look l' (atM name (first + k))).getD 0)) = _
          rw [k1, kp]
          congr 1
          exact decide_eq_decide.mpr (by show cnt + i < cnt + rise ↔ _; omega)
        rw [fe]
        walk_at "e"
        refine ite_dec (fun _ => ?_) fun z => absurd ft z
        cases slow with
        | none =>
          dsimp only [optD]
          cases fast with
          | none =>
            dsimp only [optD]
            walk_at "e"
            exact ⟨rfl, rfl⟩
          | some y =>
            dsimp only [optD]
            have e : (fL2 name none (some y) (first + k)).all (okR (look l')) = !decide (y < rise) := by
              rw [← x2]
              exact Bool.and_true _
            rw [e, Bool.not_not]
            walk_at "e"
            exact ⟨rfl, rfl⟩
        | some x =>
          dsimp only [optD]
          cases fast with
          | none =>
            dsimp only [optD]
            have e : (fL2 name (some x) none (first + k)).all (okR (look l')) = !decide (rise < x) := by
              rw [← x1]
              exact Bool.and_true _
            rw [e, Bool.not_not]
            walk_at "e"
            refine ite_dec (fun z => ⟨rfl, (decide_eq_true z).symm⟩) fun z => ?_
            walk_at "e"
            exact ⟨rfl, (decide_eq_false z).symm⟩
          | some y =>
            dsimp only [optD]
            have e : (fL2 name (some x) (some y) (first + k)).all (okR (look l')) = (!decide (rise < x) && !decide (y < rise)) := by
              rw [← x1, ← x2]
              show (_ && (_ && true)) = _
              rw [Bool.and_true]
            rw [e]
            walk_at "e"
            refine ite_dec (fun z => ⟨rfl, by rw [decide_eq_true z]; rfl⟩) fun z => ?_
            walk_at "e"
            refine ⟨rfl, ?_⟩
            rw [decide_eq_false z, Bool.not_false, Bool.true_and, Bool.not_not]
      · have fe : fLine name first slow fast (first + (k : Int)) = [] := by
          unfold fLine
          cases slow <;> cases fast <;> simp only [if_neg ft] <;> rfl
        rw [fe]
        walk_at "e"
        refine ite_dec (fun z => absurd z ft) fun z => ⟨rfl, rfl⟩
    refine s_if (AT.mono key fun b o1 q => ?_)
    obtain ⟨rfl, rfl⟩ := q
    cases hq : (fLine name first slow fast (first + k)).all (okR (look l')) with
    | true =>
      refine ite_ff (s_next ?_)
      rw [hq, Bool.and_true] at k5
      refine ⟨by omega, f26, l', cnt + rise, some (.da (.int (first + k))), some (.da (.int rise)), hl4, k3, k4, (fun _ => by rw [k6]; exact k1), ?_⟩
      rw [k5]
      rfl
    | false =>
      refine ite_tt (s_asg (e_bl (g_name ?_)))
      rw [hq, Bool.and_false] at k5
      refine ⟨by omega, f26, l', cnt + rise, some (.da (.int (first + k))), some (.da (.int rise)), hl4, k3, k4, (fun _ => by rw [k6]; exact k1), ?_⟩
      rw [k5]
      rfl
  · rintro ρ' o'' ⟨_, f23, l, cnt, t, r, hl, ll, hkeys, hlast, rfl⟩
    have hm2 : ((last + 1 - first).toNat : Int) = last + 1 - first := by omega
    rw [hm2] at hkeys
    refine s_frz 12 (j := O1.length) rfl (by omega) hl (.dic _) ?_
    have f24 := f23.set (u := OO.gone) jl hN
    refine s_ret (e_andV (e_op (e_callA ?_)))
    subst hT
    refine a_cons (e_op (e_op (e_var rfl (e_int (o_ixT at1 ?_)))))
    refine e_int (o_ixT at1 ?_)
    refine a_cons (e_var rfl (a_nil ?_))
    refine ⟨rowsU (fLine name first slow fast) first (many first last), fun _ => [.lst (txs []), .lst (txs [])], l, rfl, fun q hq => ?_, ?_⟩
    · obtain ⟨i, hi, hx⟩ := mem_rowsU hq
      obtain ⟨g1, g2⟩ := lineKeys hx
      have hi2 : (i : Int) ≤ last - first := by unfold many at hi; omega
      have hv : ∀ t, first ≤ t → t ≤ last → Has (look l) (some (atM name t)) := fun t a b s e => by
        cases e
        exact hkeys t a (by omega)
      rcases g2 with ⟨u1, u2⟩ | ⟨u1, u2⟩
      · rw [u1, u2]
        exact ⟨hv _ (by omega) (by omega), hv _ (by omega) (by omega)⟩
      · rw [u1, u2]
        exact ⟨hv _ (by omega) (by omega), hv _ (by omega) (by omega)⟩
    · refine e_var rfl (o_eqB ⟨_, rfl, ?_⟩)
      have eb : (keepsR (look l) (rowsU (fLine name first slow fast) first (many first last)) == keepsR (look l) (rowsU (fLine name first slow fast) first (last + 1 - first).toNat)) = true := beq_self_eq_true _
      rw [eb]
      refine ite_tt (e_cb ?_)
      refine a_cons (e_op (e_var rfl (e_int (o_ixT at1 (a_cons (e_raw (a_nil (n_isiT ?_))))))))
      exact h _ f24
end K03
end AB

set_option Elab.async false
set_option linter.all false
set_option maxRecDepth 100000
set_option maxHeartbeats 4000000
set_option autoImplicit false
namespace AB
open PySem L2 PySem.Spec PyProof.Rows He
namespace K03
local macro_rules | `(tactic| walk_at "e") => `(tactic| repeat' (first
  | (with_reducible refine s_seq ?_) | (with_reducible refine s_if ?_) | (with_reducible refine s_drop ?_) | (with_reducible refine s_ret ?_) | (with_reducible refine s_next ?_) | (with_reducible refine s_asg ?_)
  | (with_reducible refine g_name ?_)
  | (with_reducible refine t_test ?_) | (with_reducible refine t_B ?_) | (with_reducible refine t_or ?_) | (with_reducible refine t_and ?_) | (with_reducible refine t_not ?_)
  | ((with_reducible apply e_var); rfl) | (with_reducible refine e_int ?_) | (with_reducible refine e_str ?_) | (with_reducible refine e_bl ?_) | (with_reducible refine e_non ?_)
  | (with_reducible refine e_raw ?_) | (with_reducible refine ite_tt ?_) | (with_reducible refine ite_ff ?_) | (with_reducible refine ite_ntt ?_) | (with_reducible refine ite_nff ?_) | (with_reducible refine n_isiS ?_) | (with_reducible refine n_isiL ?_) | (with_reducible refine n_isiT ?_)
  | (with_reducible refine e_op ?_) | (with_reducible refine e_un ?_) | (with_reducible refine e_cb ?_) | (with_reducible refine e_callA ?_) | (with_reducible refine e_andV ?_) | (with_reducible refine e_if ?_)
  | (with_reducible refine a_cons ?_) | (with_reducible refine a_nil ?_)
  | (with_reducible refine o_gt ?_) | (with_reducible refine o_lt ?_) | (with_reducible refine o_le ?_) | (with_reducible refine o_ge ?_) | (with_reducible refine o_add ?_) | (with_reducible refine o_sub ?_) | (with_reducible refine o_neg ?_)
  | (with_reducible refine e_tup ?_) | (with_reducible refine e_lst ?_) | (with_reducible refine exd0 ?_) | (with_reducible refine exd1 ?_) | (with_reducible refine exd2 ?_) | (with_reducible refine exd3 ?_) | (with_reducible refine exd4 ?_) | (with_reducible refine exd5 ?_) | (with_reducible refine exd6 ?_)
  | (with_reducible refine o_isNotI ?_) | (with_reducible refine o_isNotN ?_) | (with_reducible refine o_isNotS ?_) | (with_reducible refine o_isI ?_) | (with_reducible refine o_isN ?_) | (with_reducible refine o_isS ?_) | (with_reducible refine o_isT ?_)
  | (with_reducible refine t_yes ?_) | (with_reducible refine gw_name (by decide) ?_)
  | (with_reducible refine s_par ?_) | (with_reducible refine ex2 ?_) | (with_reducible refine o_eqI ?_) | (with_reducible refine o_neI ?_) | (with_reducible refine o_ixL (by assumption) (by assumption) ?_)
  | (with_reducible refine e_sl ?_) | (with_reducible refine l_none ?_) | (with_reducible refine l_some ?_)
  | (with_reducible refine n_list (by assumption) ?_)
  | (with_reducible refine cat_in2 (by first | assumption | omega) (by omega) (by omega) ?_) | (with_reducible refine s_par3 ?_) | (with_reducible refine ex3 ?_)
  | (with_reducible refine cat_in (by first | assumption | omega) (by omega) (by omega) ?_)
  | (with_reducible refine ite_dec (fun h => absurd h (by decide)) (fun _ => ?_)) | (with_reducible refine ite_dec (fun _ => ?_) (fun h => absurd (by decide) h))
  | (with_reducible refine Exists.intro _ (And.intro rfl ?_))))
local macro_rules | `(tactic| walk_at "st") => `(tactic| simp only [List.map_cons, List.map_nil, List.length_cons, List.length_nil, Nat.reduceAdd, Nat.reduceSub, List.replicate, List.cons_append, List.nil_append])
variable {K : PySem.W.Frag} {B : Base} {W : WX} {ss : List Sl} {o : O} {Rt : Sl → O → Prop} {Xt : Addr → List (Str × D) → O → Prop}
theorem _root_.AB.Ok.ext {ρ : R} {F H H1 : Hp} {θ : List Addr} {σ : L2.St} (k : Ok B F H θ σ ρ o) (e : Ex H H1) : Ok B F H1 θ σ ρ o :=
  ⟨⟨k.tr.ff, k.tr.pre, fun a w h n => e a w (k.tr.kp a w h n), fun a h => k.tr.th a (by
    cases q : H a with
    | none => rfl
    | some w => rw [e a w q] at h; cases h), k.tr.nw, k.tr.nt⟩, fun a w h => e a w (k.fh a w h), k.len, k.nd, k.fr, fun j a u h1 h2 => (k.ob j a u h1 h2).at fun w q => e a w q, k.sl⟩
theorem _root_.AB.Tw.ext {F H H1 : Hp} {θ : List Addr} (e : Ex H H1) : Tw F H θ F H1 θ :=
  ⟨Ex.refl F, ⟨[], by simp⟩, fun a w h _ => e a w h, fun a h => (by
    cases q : H a with
    | none => rfl
    | some w => rw [e a w q] at h; cases h), fun _ h => .inl h, fun _ _ _ h _ => h⟩
/-- F1: a region of new objects, behind the state (Fs, Hs, θs) -/
structure Gh (B : Base) (F1 Fs Hs : Hp) (θs : List Addr) (F H : Hp) (θ : List Addr) : Prop where
  t : Tw Fs Hs θs F H θ
  inh : Ex F1 H
  nθ : ∀ a w, F1 a = some w → a ∉ θ
  nF : ∀ a w, F1 a = some w → F a = none
  nB : ∀ a w, F1 a = some w → B.H a = none
  nS : ∀ a w, F1 a = some w → Hs a = none
theorem Gh.on {F1 Fs Hs F H F' H' : Hp} {θs θ θ' : List Addr} (g : Gh B F1 Fs Hs θs F H θ) (t : Tw F H θ F' H' θ') : Gh B F1 Fs Hs θs F' H' θ' :=
  ⟨g.t.trans t, fun a w h => t.kp a w (g.inh a w h) (g.nθ a w h), fun a w h z => (t.nt a z).elim (g.nθ a w h) fun q => (by rw [g.inh a w h] at q; cases q),
    fun a w h => t.nf a w (g.nθ a w h) (g.nF a w h) (g.inh a w h), g.nB, g.nS⟩
def WG (B : Base) (F1 Fs Hs : Hp) (θs : List Addr) (t : TS) (D : AD) (ρ : R) (o : O) : Prop := ∀ F H θ σ, Ok B F H θ σ ρ o → Gh B F1 Fs Hs θs F H θ → ∀ E : Ends, Sat B Fs Hs θs D E → t E σ H
section
variable {F1 Fs Hs : Hp} {θs : List Addr} {t u rest : TS} {D0 : AD} {ρ : R}
theorem g_seq (Mid : R → O → Prop) (h : WS B t { D0 with nx := Mid } ρ o) (h2 : ∀ ρ' o', Mid ρ' o' → WG B F1 Fs Hs θs u D0 ρ' o') : WG B F1 Fs Hs θs (tSeq t u) D0 ρ o := fun F H θ σ k g E hE =>
  h F H θ σ k { E with nx := u E } ⟨fun F' H' θ' σ' ρ' o' t' k' m => h2 ρ' o' m F' H' θ' σ' k' (g.on t') E hE, fun F' H' θ' σ' ρ' o' v s t' k' r p => hE.rt F' H' θ' σ' ρ' o' v s (g.t.trans t') k' r p,
    fun F' H' θ' σ' ρ' o' t' k' p => hE.bk F' H' θ' σ' ρ' o' (g.t.trans t') k' p, fun F' H' θ' σ' ρ' o' t' k' p => hE.ct F' H' θ' σ' ρ' o' (g.t.trans t') k' p⟩
theorem exc_ok {H : Hp} {σ : L2.St} {ρ' : R} (s : Sls H [] σ ρ') : Ok ⟨H, H, []⟩ H H [] σ ρ' [] :=
  ⟨Tr.refl _ _ _, Ex.refl _, rfl, List.nodup_nil, fun j a u h => by simp at h, fun j a u h => by simp at h, s⟩
theorem exc_t {H : Hp} {σ : L2.St} {ρ' : R} {tt : TT} {bb : Bool} (s : Sls H [] σ ρ') (h : AT ⟨H, H, []⟩ tt ρ' [] fun b _ => b = bb) (Q : Bool → Hp → Prop) (q : ∀ H', Ex H H' → Q bb H') : tt σ H Q :=
  h H H [] σ (exc_ok s) Q fun b F' H' θ' o' t' k' p => by
    subst p
    exact q H' fun a w e => t'.kp a w e (by simp)
theorem g_chk {tt : TT} (h : ∀ F H θ σ, Ok B F H θ σ ρ o → Gh B F1 Fs Hs θs F H θ → ∃ ρ', Sls H [] σ ρ' ∧ AT ⟨H, H, []⟩ tt ρ' [] fun b _ => b = false) (k : WG B F1 Fs Hs θs rest D0 ρ o) :
    WG B F1 Fs Hs θs (tSeq (tIfS tt (tRet (tC (.bl false))) tNext) rest) D0 ρ o := fun F H θ σ ok g E hE => by
  obtain ⟨ρ', s, a⟩ := h F H θ σ ok g
  refine exc_t s a _ fun H' e => ?_
  exact k F H' θ σ (ok.ext e) (g.on (Tw.ext e)) E hE
theorem sls0 {H : Hp} {σ : L2.St} {n : Nat} (h : σ.length = n) : Sls H [] σ (List.replicate n none) :=
  ⟨by rw [h, List.length_replicate], fun i s e => by
    rw [List.getElem?_replicate] at e
    split at e <;> cases e⟩
theorem _root_.AB.Sls.put {F : Hp} {θ : List Addr} {σ : L2.St} {ρ : R} {i : Nat} {v : V} {s : Sl} (h : Sls F θ σ ρ) (hv : σ[i]? = some (some v)) (r : RepS F θ v s) : Sls F θ σ (ρ.set i (some s)) :=
  ⟨by rw [List.length_set]; exact h.len, fun j s' e => by
    by_cases q : j = i
    · subst q
      rw [List.getElem?_set] at e
      simp only [if_true] at e
      split at e
      · cases e
        exact ⟨v, hv, r⟩
      · cases e
    · rw [List.getElem?_set_ne (fun z => q z.symm)] at e
      exact h.at_ j s' e⟩
theorem _root_.AB.Sls.drop {F : Hp} {θ : List Addr} {σ : L2.St} {ρ : R} {i : Nat} (h : Sls F θ σ ρ) : Sls F θ σ (ρ.set i none) :=
  ⟨by rw [List.length_set]; exact h.len, fun j s' e => by
    by_cases q : j = i
    · subst q
      rw [List.getElem?_set] at e
      simp only [if_true] at e
      split at e <;> cases e
    · rw [List.getElem?_set_ne (fun z => q z.symm)] at e
      exact h.at_ j s' e⟩
theorem snap_da {F H : Hp} {θ : List Addr} {σ : L2.St} (k : Ok B F H θ σ ρ o) {i : Nat} {d : D} (h : ρ[i]? = some (some (.da d))) : ∃ v, σ[i]? = some (some v) ∧ Rep H v d := by
  obtain ⟨v, h1, h2⟩ := k.sl.at_ i _ h
  exact ⟨v, h1, Rep.mono k.fh h2⟩
theorem own_rep {F H : Hp} {θ : List Addr} {σ : L2.St} (k : Ok B F H θ σ ρ o) {q : Nat} {ds : List D} {v : V} (ho : o[q]? = some (.lst (ds.map Sl.da))) (r : RepS F θ v (.ow q)) : Rep H v (.lst ds) := by
  obtain ⟨a, xs, rfl, h1, h2⟩ := LL.at (s := .ow q) ho k r
  exact Rep.lst h1 ((da_all h2).mono k.fh)
theorem snap_ow {F H : Hp} {θ : List Addr} {σ : L2.St} (k : Ok B F H θ σ ρ o) {i q : Nat} {ds : List D} (h : ρ[i]? = some (some (.ow q))) (ho : o[q]? = some (.lst (ds.map Sl.da))) : ∃ v, σ[i]? = some (some v) ∧ Rep H v (.lst ds) := by
  obtain ⟨v, h1, h2⟩ := k.sl.at_ i _ h
  exact ⟨v, h1, own_rep k ho h2⟩
theorem own_rep2 {F H : Hp} {θ : List Addr} {σ : L2.St} (k : Ok B F H θ σ ρ o) {q x y : Nat} {ds es : List D} {v : V} (ho : o[q]? = some (.lst [.ow x, .ow y])) (hx : o[x]? = some (.lst (ds.map Sl.da))) (hy : o[y]? = some (.lst (es.map Sl.da))) (r : RepS F θ v (.ow q)) : Rep H v (.lst [.lst ds, .lst es]) := by
  obtain ⟨a, xs, rfl, h1, h2⟩ := LL.at (s := .ow q) ho k r
  cases h2 with
  | cons r1 r2 =>
    cases r2 with
    | cons r2 r3 =>
      cases r3
      exact Rep.lst h1 (.cons (own_rep k hx r1) (.cons (own_rep k hy r2) .nil))
theorem snap_raw {F H : Hp} {θ : List Addr} {σ : L2.St} (k : Ok B F H θ σ ρ o) {i : Nat} {v : V} (h : ρ[i]? = some (some (.da (.raw v)))) : σ[i]? = some (some v) := by
  obtain ⟨v', h1, h2⟩ := k.sl.at_ i _ h
  cases h2
  exact h1
/-- a walk over a list that stands -/
theorem for_raw {tl : TE} {g : TG} {tb : TS} {E : Ends} {σ : L2.St} {H : Hp} (a : Addr) (xs : List V) (I : Nat → L2.St → Hp → Prop) (hl : ∀ Q : VK, Q (.ref a) H → tl σ H Q) (h0 : I 0 σ H) (ha : ∀ i σ' H', I i σ' H' → H' a = some (.lst xs))
    (hs : ∀ (i : Nat) v σ' H', xs[i]? = some v → I i σ' H' → g v σ' H' fun σ2 H2 => tb { E with nx := I (i + 1), ct := I (i + 1), bk := E.nx } σ2 H2) (hd : ∀ σ' H', I xs.length σ' H' → E.nx σ' H') : tFor (iSq K tl) g tb E σ H := by
  refine hl _ (.inl ⟨a, rfl, ⟨xs, SqL.of (ha 0 σ H h0)⟩, ?_⟩)
  refine ⟨fun i m σ' H' => m = xs.length - i ∧ i ≤ xs.length ∧ I i σ' H', ⟨_, rfl, Nat.zero_le _, h0⟩, ?_⟩
  intro i m σ' H' hw
  obtain ⟨rfl, hi, p⟩ := hw
  have hH := ha i σ' H' p
  by_cases hlt : i < xs.length
  · refine .inr ⟨⟨xs, _, SqL.of hH, List.getElem?_eq_getElem hlt⟩, I (i + 1), fun σ2 H2 n => ⟨_, by omega, rfl, hlt, n⟩, fun y H'' z => ?_⟩
    obtain ⟨e1, z⟩ := z
    subst e1
    exact hs i y σ' H'' (z xs (SqL.of hH)) p
  · have e : i = xs.length := by omega
    subst e
    exact .inl ⟨⟨xs, SqL.of hH, Nat.le_refl _⟩, hd σ' H' p⟩
/-- told[1], told a raw value -/
theorem raw_at {σ : L2.St} {H : Hp} {i : Nat} {v : V} {x : D} {y : D} (hσ : σ[i]? = some (some v)) (h : Rep H v (.tup [x, y])) : ∃ w, Rep H w y ∧ ∀ Q : VK, Q w H → tOp (rIxA K) (tVar i) (tC (.int 1)) σ H Q := by
  cases h with
  | @tup a vs _ e r =>
    cases r with
    | cons r1 r2 =>
      cases r2 with
      | @cons w _ _ _ r2 r3 =>
        cases r3
        exact ⟨w, r2, fun Q q => ⟨_, hσ, .inl (.inr (.inl ⟨a, _, 1, w, rfl, rfl, SqT.of e, rfl, q⟩))⟩⟩
theorem rep_lst {F : Hp} {v : V} {ds : List D} (h : Rep F v (.lst ds)) : ∃ a xs, v = .ref a ∧ F a = some (.lst xs) ∧ RepL F xs ds := by
  cases h with
  | lst e r => exact ⟨_, _, rfl, e, r⟩
theorem rep_tup {F : Hp} {v : V} {ds : List D} (h : Rep F v (.tup ds)) : ∃ a xs, v = .ref a ∧ F a = some (.tup xs) ∧ RepL F xs ds := by
  cases h with
  | tup e r => exact ⟨_, _, rfl, e, r⟩
theorem g_isi {v : V} {tag : D} {rows : List D} (hv : ρ[10]? = some (some (.da (.raw v)))) (hlen : ρ.length = 14) (hrep : Rep F1 v (.tup [tag, .lst rows])) (hrows : ∀ d, d ∈ rows → ∃ ds, d = .tup ds) (k : WG B F1 Fs Hs θs rest D0 (ρ.set 12 none) o) :
    WG B F1 Fs Hs θs (tSeq (tFor (iSq K (tOp (rIxA K) (tVar 10) (tC (.int 1)))) (gName 12) (tIfS (tNot (tB (tCB (rIsi K) (tCons (tVar 12) (tCons (tC (.ty "tuple")) tNil))))) (tRet (tC (.bl false))) tNext)) rest) D0 ρ o := fun F H θ σ ok g E hE => by
  obtain ⟨w, hw, tl⟩ := raw_at (K := K) (snap_raw ok hv) (hrep.mono g.inh)
  obtain ⟨L, xs, rfl, hL, hxs⟩ := rep_lst hw
  refine for_raw L xs (fun i σ' H' => H' = H ∧ Sls F θ σ' (ρ.set 12 none) ∧ σ'.length = 14) tl ⟨rfl, ok.sl.drop, by rw [ok.sl.len, hlen]⟩ (fun i σ' H' p => by rw [p.1]; exact hL) ?_ ?_
  · rintro i x σ' H' hx ⟨rfl, s, sl⟩
    obtain ⟨d, hd, rd⟩ := hxs.get hx
    obtain ⟨ds, rfl⟩ := hrows d (List.mem_of_getElem? hd)
    obtain ⟨ar, ws, rfl, har, _⟩ := rep_tup rd
    have s2 := s.none (i := 12) (some (V.ref ar))
    rw [List.set_set] at s2
    refine ⟨_, List.getElem?_set_self (by omega), ?_⟩
    refine ⟨_, _, .type "tuple", .type "tuple", true, rfl, .ty _, .base (.tup har), kit_same, ?_⟩
    exact ⟨true, rfl, ⟨rfl, s2, by rw [List.length_set]; exact sl⟩⟩
  · rintro σ' H' ⟨rfl, s, sl⟩
    exact k F H' θ σ' (ok.slots s) g E hE
theorem _root_.AB.Ok.spoil {F H H' : Hp} {θ : List Addr} {σ : L2.St} (k : Ok B F H θ σ ρ o) (S : Addr → Prop) (h1 : ∀ a, ¬ S a → H' a = H a) (h2 : ∀ a, S a → ∃ u, H' a = some u) (n1 : ∀ a, S a → a ∉ θ) (n2 : ∀ a, S a → F a = none) (n3 : ∀ a, S a → B.H a = none) : Ok B F H' θ σ ρ o := by
  refine ⟨⟨k.tr.ff, k.tr.pre, fun a w h n => ?_, fun a h => ?_, k.tr.nw, k.tr.nt⟩, fun a w h => ?_, k.len, k.nd, k.fr, fun j a u q1 q2 => (k.ob j a u q1 q2).at fun w q => ?_, k.sl⟩
  · rw [h1 a (fun z => by rw [n3 a z] at h; cases h)]
    exact k.tr.kp a w h n
  · by_cases z : S a
    · exact n3 a z
    · rw [h1 a z] at h
      exact k.tr.th a h
  · rw [h1 a (fun z => by rw [n2 a z] at h; cases h)]
    exact k.fh a w h
  · rw [h1 a (fun z => n1 a z (List.mem_of_getElem? q1))]
    exact q
end
end K03
end AB

set_option Elab.async false
set_option linter.all false
set_option maxRecDepth 100000
set_option maxHeartbeats 4000000
set_option autoImplicit false
namespace AB
open PySem L2 PySem.Spec PyProof.Rows He
namespace K03
local macro_rules | `(tactic| walk_at "e") => `(tactic| repeat' (first
  | (with_reducible refine s_seq ?_) | (with_reducible refine s_if ?_) | (with_reducible refine s_drop ?_) | (with_reducible refine s_ret ?_) | (with_reducible refine s_next ?_) | (with_reducible refine s_asg ?_)
  | (with_reducible refine g_name ?_)
  | (with_reducible refine t_test ?_) | (with_reducible refine t_B ?_) | (with_reducible refine t_or ?_) | (with_reducible refine t_and ?_) | (with_reducible refine t_not ?_)
  | ((with_reducible apply e_var); rfl) | (with_reducible refine e_int ?_) | (with_reducible refine e_str ?_) | (with_reducible refine e_bl ?_) | (with_reducible refine e_non ?_)
  | (with_reducible refine e_raw ?_) | (with_reducible refine ite_tt ?_) | (with_reducible refine ite_ff ?_) | (with_reducible refine ite_ntt ?_) | (with_reducible refine ite_nff ?_) | (with_reducible refine n_isiS ?_) | (with_reducible refine n_isiL ?_) | (with_reducible refine n_isiT ?_)
  | (with_reducible refine e_op ?_) | (with_reducible refine e_un ?_) | (with_reducible refine e_cb ?_) | (with_reducible refine e_callA ?_) | (with_reducible refine e_andV ?_) | (with_reducible refine e_if ?_)
  | (with_reducible refine a_cons ?_) | (with_reducible refine a_nil ?_)
  | (with_reducible refine o_gt ?_) | (with_reducible refine o_lt ?_) | (with_reducible refine o_le ?_) | (with_reducible refine o_ge ?_) | (with_reducible refine o_add ?_) | (with_reducible refine o_sub ?_) | (with_reducible refine o_neg ?_)
  | (with_reducible refine e_tup ?_) | (with_reducible refine e_lst ?_) | (with_reducible refine exd0 ?_) | (with_reducible refine exd1 ?_) | (with_reducible refine exd2 ?_) | (with_reducible refine exd3 ?_) | (with_reducible refine exd4 ?_) | (with_reducible refine exd5 ?_) | (with_reducible refine exd6 ?_)
  | (with_reducible refine o_isNotI ?_) | (with_reducible refine o_isNotN ?_) | (with_reducible refine o_isNotS ?_) | (with_reducible refine o_isI ?_) | (with_reducible refine o_isN ?_) | (with_reducible refine o_isS ?_) | (with_reducible refine o_isT ?_)
  | (with_reducible refine t_yes ?_) | (with_reducible refine gw_name (by decide) ?_)
  | (with_reducible refine s_par ?_) | (with_reducible refine ex2 ?_) | (with_reducible refine o_eqI ?_) | (with_reducible refine o_neI ?_) | (with_reducible refine o_ixL (by assumption) (by assumption) ?_)
  | (with_reducible refine e_sl ?_) | (with_reducible refine l_none ?_) | (with_reducible refine l_some ?_)
  | (with_reducible refine n_list (by assumption) ?_)
  | (with_reducible refine cat_in2 (by first | assumption | omega) (by omega) (by omega) ?_) | (with_reducible refine s_par3 ?_) | (with_reducible refine ex3 ?_)
  | (with_reducible refine cat_in (by first | assumption | omega) (by omega) (by omega) ?_)
  | (with_reducible refine ite_dec (fun h => absurd h (by decide)) (fun _ => ?_)) | (with_reducible refine ite_dec (fun _ => ?_) (fun h => absurd (by decide) h))
  | (with_reducible refine Exists.intro _ (And.intro rfl ?_))))
local macro_rules | `(tactic| walk_at "st") => `(tactic| simp only [List.map_cons, List.map_nil, List.length_cons, List.length_nil, Nat.reduceAdd, Nat.reduceSub, List.replicate, List.cons_append, List.nil_append])
variable {K : PySem.W.Frag} {B : Base} {W : WX} {ss : List Sl} {o : O} {Rt : Sl → O → Prop} {Xt : Addr → List (Str × D) → O → Prop}
theorem atI_got {F : Hp} {xs : List V} {ds : List D} {i : Int} {d : D} (r : RepL F xs ds) (e : atI ds i = some d) : ∃ w, atI xs i = some w ∧ Rep F w d := by
  obtain ⟨j, e1, e2⟩ := atI_eq e
  obtain ⟨w, h1, h2⟩ := r.got e2
  exact ⟨w, atI_of (by rw [r.len]; exact e1) h1, h2⟩
def isStr : D → Prop
  | .str _ => True
  | _ => False
/-- the rows of an answer -/
def rowD (d : D) : Prop := ∃ a b c ys zs, d = .tup [a, b, c, .lst ys, .lst zs] ∧ (∀ y, y ∈ ys → isStr y) ∧ (∀ y, y ∈ zs → isStr y) ∧ ys.length ≤ 1000 ∧ zs.length ≤ 1000
theorem rowD.at {d : D} (h : rowD d) (i : Int) (hi : i = 3 ∨ i = 4) : ∃ ds ys, d = .tup ds ∧ atI ds i = some (.lst ys) ∧ (∀ y, y ∈ ys → isStr y) ∧ ys.length ≤ 1000 := by
  obtain ⟨a, b, c, ys, zs, rfl, h1, h2, h3, h4⟩ := h
  rcases hi with rfl | rfl
  · exact ⟨_, ys, rfl, rfl, h1, h3⟩
  · exact ⟨_, zs, rfl, rfl, h2, h4⟩
section
variable {F1 Fs Hs : Hp} {θs : List Addr} {rest : TS} {D0 : AD} {ρ : R}
/-- the lists in the rows -/
def Sp1 (F1 : Hp) (xs : List V) (a : Addr) : Prop := ∃ ar ws, V.ref ar ∈ xs ∧ F1 ar = some (.tup ws) ∧ ∃ i : Int, (i = 3 ∨ i = 4) ∧ atI ws i = some (.ref a)
theorem rep_str_of {F : Hp} {v : V} {d : D} (h : Rep F v d) (s : isStr d) : ∃ x, v = .str x := by
  cases d with
  | str x => exact ⟨x, rep_str h⟩
  | _ => exact s.elim
theorem Sp1.list {xs : List V} {rows : List D} (hx : RepL F1 xs rows) (hrows : ∀ d, d ∈ rows → rowD d) {a : Addr} (s : Sp1 F1 xs a) : ∃ ys, F1 a = some (.lst ys) ∧ ys.length ≤ 1000 ∧ ∀ y, y ∈ ys → ∃ x, y = .str x := by
  obtain ⟨ar, ws, hm, har, i, hi, e⟩ := s
  obtain ⟨n, hn, en⟩ := List.getElem_of_mem hm
  obtain ⟨d, hd, rd⟩ := hx.get (List.getElem?_eq_getElem hn)
  rw [en] at rd
  obtain ⟨ds, ys, rfl, e2, hstr, hlen⟩ := (hrows d (List.mem_of_getElem? hd)).at i hi
  obtain ⟨ar', ws', e3, e4, r4⟩ := rep_tup rd
  cases e3
  rw [har] at e4
  cases e4
  obtain ⟨w, e5, r5⟩ := atI_got r4 e2
  rw [e] at e5
  cases e5
  obtain ⟨a', zs, e6, e7, r7⟩ := rep_lst r5
  cases e6
  refine ⟨zs, e7, by rw [r7.len]; exact hlen, fun y hy => ?_⟩
  obtain ⟨m, hm', em⟩ := List.getElem_of_mem hy
  obtain ⟨dd, h1, h2⟩ := r7.get (List.getElem?_eq_getElem hm')
  rw [em] at h2
  exact rep_str_of h2 (hstr dd (List.mem_of_getElem? h1))
def spT (i : Int) : TS := tDrop (tBM K "list" rAppend (tOp (rIxA K) (tVar 12) (tC (.int i))) (tCons (tC (.str "z")) tNil))
theorem spT_run {σ : L2.St} {H' : Hp} {ar a : Addr} {ws : List V} {ys : List V} {i : Int} {E : Ends} (hσ : σ[12]? = some (some (V.ref ar))) (har : H' ar = some (.tup ws)) (e : atI ws i = some (.ref a)) (ha : H' a = some (.lst ys)) (hl : ys.length < sizeLine)
    (q : E.nx σ (upd H' a (.lst (ys ++ [.str "z"])))) : spT (K := K) i E σ H' :=
  ⟨_, hσ, .inl (.inr (.inl ⟨ar, ws, i, .ref a, rfl, rfl, SqT.of har, e, .inl ⟨rfl, ys, SqL.of ha⟩, a, ys, .str "z", rfl, rfl, ha, hl, q⟩))⟩
theorem g_spoil {v : V} {tag : D} {rows : List D} (hv : ρ[10]? = some (some (.da (.raw v)))) (hlen : ρ.length = 14) (hrep : Rep F1 v (.tup [tag, .lst rows])) (hrows : ∀ d, d ∈ rows → rowD d) (hmany : rows.length ≤ 1000) (k : WS B rest D0 (ρ.set 12 none) o) :
    WG B F1 Fs Hs θs (tSeq (tFor (iSq K (tOp (rIxA K) (tVar 10) (tC (.int 1)))) (gName 12) (tSeq (spT (K := K) 3) (spT (K := K) 4))) rest) D0 ρ o := fun F H θ σ ok g E hE => by
  -- told[1]
  have top : ∃ L xs, F1 L = some (.lst xs) ∧ RepL F1 xs rows ∧ ∀ Q : VK, Q (.ref L) H → tOp (rIxA K) (tVar 10) (tC (.int 1)) σ H Q := by
    obtain ⟨at_, vs, e0, e1, r1⟩ := rep_tup hrep
    subst e0
    cases r1 with
    | cons r2 r3 =>
      cases r3 with
      | @cons w _ _ _ r3 r4 =>
        cases r4
        obtain ⟨L, xs, e2, e3, r5⟩ := rep_lst r3
        subst e2
        exact ⟨L, xs, e3, r5, fun Q q => ⟨_, snap_raw ok hv, .inl (.inr (.inl ⟨at_, _, 1, _, rfl, rfl, SqT.of (g.inh _ _ e1), rfl, q⟩))⟩⟩
  obtain ⟨L, xs, hL, hxs, tl⟩ := top
  have hxl : xs.length ≤ 1000 := by rw [hxs.len]; exact hmany
  have sL : ¬ Sp1 F1 xs L := fun s => by
    obtain ⟨ys, e1, _, hy⟩ := s.list hxs hrows
    rw [hL] at e1
    cases e1
    obtain ⟨ar, ws, hm, _⟩ := s
    obtain ⟨x, hx⟩ := hy _ hm
    cases hx
  have sT : ∀ a ws, F1 a = some (.tup ws) → ¬ Sp1 F1 xs a := fun a ws e s => by
    obtain ⟨ys, e1, _⟩ := s.list hxs hrows
    rw [e] at e1
    cases e1
  refine for_raw L xs (fun i σ' H' => (∀ a, ¬ Sp1 F1 xs a → H' a = H a) ∧ (∀ a, Sp1 F1 xs a → ∃ ys, H' a = some (.lst ys) ∧ ys.length ≤ 1000 + 2 * i) ∧ i ≤ 1000 ∧ Sls F θ σ' (ρ.set 12 none) ∧ σ'.length = 14) tl
    ⟨fun a _ => rfl, fun a s => ?_, by omega, ok.sl.drop, by rw [ok.sl.len, hlen]⟩ (fun i σ' H' p => ?_) ?_ ?_
  · obtain ⟨ys, e, l, _⟩ := s.list hxs hrows
    exact ⟨ys, g.inh _ _ e, by omega⟩
  · rw [p.1 L sL]
    exact g.inh _ _ hL
  · rintro i x σ' H' hx ⟨p1, p2, p3, s, sl⟩
    have hi := (List.getElem?_eq_some_iff.mp hx).1
    obtain ⟨d, hd, rd⟩ := hxs.get hx
    have rowd := hrows d (List.mem_of_getElem? hd)
    obtain ⟨ds, y3, rfl, e3, _, _⟩ := rowd.at 3 (.inl rfl)
    obtain ⟨ds', y4, e0, e4, _, _⟩ := rowd.at 4 (.inr rfl)
    cases e0
    obtain ⟨ar, ws, rfl, har, rw0⟩ := rep_tup rd
    obtain ⟨w3, f3, r3⟩ := atI_got rw0 e3
    obtain ⟨w4, f4, r4⟩ := atI_got rw0 e4
    obtain ⟨a3, _, rfl, _, _⟩ := rep_lst r3
    obtain ⟨a4, _, rfl, _, _⟩ := rep_lst r4
    have m : V.ref ar ∈ xs := List.mem_of_getElem? hx
    have s3 : Sp1 F1 xs a3 := ⟨ar, ws, m, har, 3, .inl rfl, f3⟩
    have s4 : Sp1 F1 xs a4 := ⟨ar, ws, m, har, 4, .inr rfl, f4⟩
    have s2 := s.none (i := 12) (some (V.ref ar))
    rw [List.set_set] at s2
    have hσ : (σ'.set 12 (some (V.ref ar)))[12]? = some (some (V.ref ar)) := List.getElem?_set_self (by omega)
    have harH : H' ar = some (.tup ws) := by rw [p1 ar (sT _ _ har)]; exact g.inh _ _ har
    obtain ⟨ys, q1, q2⟩ := p2 a3 s3
    refine spT_run hσ harH f3 q1 (size1000 (by omega)) ?_
    have harU : upd H' a3 (.lst (ys ++ [.str "z"])) ar = some (.tup ws) := by
      rw [upd_ne (fun z => by rw [z] at har; exact sT _ _ har s3)]
      exact harH
    have p2' : ∀ a, Sp1 F1 xs a → ∃ zs, upd H' a3 (.lst (ys ++ [.str "z"])) a = some (.lst zs) ∧ zs.length ≤ 1000 + 2 * i + 1 := fun a sa => by
      by_cases z : a = a3
      · subst z
        exact ⟨_, upd_same, by simp only [List.length_append, List.length_cons, List.length_nil]; omega⟩
      · obtain ⟨zs, u1, u2⟩ := p2 a sa
        exact ⟨zs, by rw [upd_ne z]; exact u1, by omega⟩
    obtain ⟨zs, q3, q4⟩ := p2' a4 s4
    refine spT_run hσ harU f4 q3 (size1000 (by omega)) ⟨fun a na => ?_, fun a sa => ?_, by omega, s2, by rw [List.length_set]; exact sl⟩
    · rw [upd_ne (fun z => na (by rw [z]; exact s4)), upd_ne (fun z => na (by rw [z]; exact s3))]
      exact p1 a na
    · by_cases z : a = a4
      · subst z
        exact ⟨_, upd_same, by simp only [List.length_append, List.length_cons, List.length_nil]; omega⟩
      · obtain ⟨us, u1, u2⟩ := p2' a sa
        exact ⟨us, by rw [upd_ne z]; exact u1, by omega⟩
  · rintro σ' H' ⟨p1, p2, p3, s, sl⟩
    have inF : ∀ a, Sp1 F1 xs a → ∃ w, F1 a = some w := fun a sa => by
      obtain ⟨ys, e, _⟩ := sa.list hxs hrows
      exact ⟨_, e⟩
    have ok2 : Ok B F H' θ σ' (ρ.set 12 none) o := (ok.slots s).spoil (Sp1 F1 xs) p1 (fun a sa => by obtain ⟨ys, e, _⟩ := p2 a sa; exact ⟨_, e⟩)
      (fun a sa => by obtain ⟨w, e⟩ := inF a sa; exact g.nθ a w e) (fun a sa => by obtain ⟨w, e⟩ := inF a sa; exact g.nF a w e) (fun a sa => by obtain ⟨w, e⟩ := inF a sa; exact g.nB a w e)
    have tw : Tw Fs Hs θs F H' θ := ⟨g.t.ff, g.t.pre, fun a w h n => by
      rw [p1 a (fun sa => by obtain ⟨u, e⟩ := inF a sa; have := g.nS a u e; rw [h] at this; cases this)]
      exact g.t.kp a w h n, fun a h => by
      by_cases sa : Sp1 F1 xs a
      · obtain ⟨u, e⟩ := inF a sa
        exact g.nS a u e
      · rw [p1 a sa] at h
        exact g.t.th a h, g.t.nt, g.t.nf⟩
    exact k F H' θ σ' ok2 E (hE.on tw)
end
end K03
end AB

set_option Elab.async false
set_option linter.all false
set_option maxRecDepth 100000
set_option maxHeartbeats 4000000
set_option autoImplicit false
namespace AB
open PySem L2 PySem.Spec PyProof.Rows He
namespace K03
local macro_rules | `(tactic| walk_at "e") => `(tactic| repeat' (first
  | (with_reducible refine s_seq ?_) | (with_reducible refine s_if ?_) | (with_reducible refine s_drop ?_) | (with_reducible refine s_ret ?_) | (with_reducible refine s_next ?_) | (with_reducible refine s_asg ?_)
  | (with_reducible refine g_name ?_)
  | (with_reducible refine t_test ?_) | (with_reducible refine t_B ?_) | (with_reducible refine t_or ?_) | (with_reducible refine t_and ?_) | (with_reducible refine t_not ?_)
  | ((with_reducible apply e_var); rfl) | (with_reducible refine e_int ?_) | (with_reducible refine e_str ?_) | (with_reducible refine e_bl ?_) | (with_reducible refine e_non ?_)
  | (with_reducible refine e_raw ?_) | (with_reducible refine ite_tt ?_) | (with_reducible refine ite_ff ?_) | (with_reducible refine ite_ntt ?_) | (with_reducible refine ite_nff ?_) | (with_reducible refine n_isiS ?_) | (with_reducible refine n_isiL ?_) | (with_reducible refine n_isiT ?_)
  | (with_reducible refine e_op ?_) | (with_reducible refine e_un ?_) | (with_reducible refine e_cb ?_) | (with_reducible refine e_callA ?_) | (with_reducible refine e_andV ?_) | (with_reducible refine e_if ?_)
  | (with_reducible refine a_cons ?_) | (with_reducible refine a_nil ?_)
  | (with_reducible refine o_gt ?_) | (with_reducible refine o_lt ?_) | (with_reducible refine o_le ?_) | (with_reducible refine o_ge ?_) | (with_reducible refine o_add ?_) | (with_reducible refine o_sub ?_) | (with_reducible refine o_neg ?_)
  | (with_reducible refine e_tup ?_) | (with_reducible refine e_lst ?_) | (with_reducible refine exd0 ?_) | (with_reducible refine exd1 ?_) | (with_reducible refine exd2 ?_) | (with_reducible refine exd3 ?_) | (with_reducible refine exd4 ?_) | (with_reducible refine exd5 ?_) | (with_reducible refine exd6 ?_)
  | (with_reducible refine o_isNotI ?_) | (with_reducible refine o_isNotN ?_) | (with_reducible refine o_isNotS ?_) | (with_reducible refine o_isI ?_) | (with_reducible refine o_isN ?_) | (with_reducible refine o_isS ?_) | (with_reducible refine o_isT ?_)
  | (with_reducible refine t_yes ?_) | (with_reducible refine gw_name (by decide) ?_)
  | (with_reducible refine s_par ?_) | (with_reducible refine ex2 ?_) | (with_reducible refine o_eqI ?_) | (with_reducible refine o_neI ?_) | (with_reducible refine o_ixL (by assumption) (by assumption) ?_)
  | (with_reducible refine e_sl ?_) | (with_reducible refine l_none ?_) | (with_reducible refine l_some ?_)
  | (with_reducible refine n_list (by assumption) ?_)
  | (with_reducible refine cat_in2 (by first | assumption | omega) (by omega) (by omega) ?_) | (with_reducible refine s_par3 ?_) | (with_reducible refine ex3 ?_)
  | (with_reducible refine cat_in (by first | assumption | omega) (by omega) (by omega) ?_)
  | (with_reducible refine ite_dec (fun h => absurd h (by decide)) (fun _ => ?_)) | (with_reducible refine ite_dec (fun _ => ?_) (fun h => absurd (by decide) h))
  | (with_reducible refine Exists.intro _ (And.intro rfl ?_))))
local macro_rules | `(tactic| walk_at "st") => `(tactic| simp only [List.map_cons, List.map_nil, List.length_cons, List.length_nil, Nat.reduceAdd, Nat.reduceSub, List.replicate, List.cons_append, List.nil_append])
variable {K : PySem.W.Frag} {B : Base} {W : WX} {ss : List Sl} {o : O} {Rt : Sl → O → Prop} {Xt : Addr → List (Str × D) → O → Prop}
/-- values that need no heap -/
def flat : D → Prop
  | .non => True
  | .bl _ => True
  | .int _ => True
  | .str _ => True
  | _ => False
theorem flat_rep {F F' : Hp} {v : V} {d : D} (h : Rep F v d) (f : flat d) : Rep F' v d := by
  cases d with
  | non => rw [rep_non h]; exact Rep.non
  | bl b => rw [rep_bl h]; exact Rep.bl _
  | int i => rw [rep_int h]; exact Rep.int _
  | str s => rw [rep_str h]; exact Rep.str _
  | _ => exact f.elim
theorem flat_eq {F F' : Hp} {v v' : V} {d : D} (h : Rep F v d) (h' : Rep F' v' d) (f : flat d) : v = v' := by
  cases d with
  | non => rw [rep_non h, rep_non h']
  | bl b => rw [rep_bl h, rep_bl h']
  | int i => rw [rep_int h, rep_int h']
  | str s => rw [rep_str h, rep_str h']
  | _ => exact f.elim
theorem flatL_rep {F F' : Hp} {θ θ' : List Addr} : ∀ {vs : List V} {ds : List D}, RepSL F θ vs (ds.map Sl.da) → (∀ d, d ∈ ds → flat d) → RepSL F' θ' vs (ds.map Sl.da)
  | [], [], _, _ => .nil
  | _ :: _, _ :: _, .cons r t, h => .cons (RepS.dat (flat_rep r (h _ List.mem_cons_self))) (flatL_rep t fun d hd => h d (List.mem_cons_of_mem _ hd))
theorem flatL_eq {F F' : Hp} {θ θ' : List Addr} {ds : List D} : ∀ {vs vs' : List V}, RepSL F θ vs (ds.map Sl.da) → RepSL F' θ' vs' (ds.map Sl.da) → (∀ d, d ∈ ds → flat d) → vs = vs' := by
  induction ds with
  | nil =>
    intro vs vs' h h' _
    cases h
    cases h'
    rfl
  | cons d r ih =>
    intro vs vs' h h' f
    cases h with
    | cons r1 t1 =>
      cases h' with
      | cons r2 t2 => rw [flat_eq (d := d) r1 r2 (f _ List.mem_cons_self), ih t1 t2 fun d hd => f d (List.mem_cons_of_mem _ hd)]
theorem flat_optD (x : Option Int) : flat (optD x) := by cases x <;> exact True.intro
theorem flat_txs {l : List Str} : ∀ d, d ∈ txs l → flat d := fun d hd => by
  unfold txs at hd
  obtain ⟨s, _, rfl⟩ := List.mem_map.mp hd
  exact True.intro
def numD (low high : Option Int) (mn : Int) : List D := [optD low, optD high, .int mn, .int 1, .int 0, .int 9]
theorem flat_num {low high : Option Int} {mn : Int} : ∀ d, d ∈ numD low high mn → flat d := fun d hd => by
  unfold numD at hd
  simp only [List.mem_cons, List.not_mem_nil, or_false] at hd
  rcases hd with rfl | rfl | rfl | rfl | rfl | rfl
  · exact flat_optD _
  · exact flat_optD _
  all_goals exact True.intro
section
variable {rest : TS} {D0 : AD} {ρ : R}
/-- told = _law_asked(kind, names, first, last, numbers, handed), the answer in a region of its own -/
theorem asked_call {kind : Int} {a b : Str} {first last : Int} {low high : Option Int} {mn : Int} {yes no : List Str} {n1 i8 hq x y : Nat} (nd : [n1, i8, hq, x, y].Nodup)
    (r1 : ρ[1]? = some (some (.da (.int kind)))) (r2 : ρ[2]? = some (some (.ow n1))) (r3 : ρ[3]? = some (some (.da (.int first)))) (r4 : ρ[4]? = some (some (.da (.int last)))) (r8 : ρ[8]? = some (some (.ow i8))) (r9 : ρ[9]? = some (some (.ow hq)))
    (o1 : o[n1]? = some (.lst ([D.str a, .str b].map Sl.da))) (o2 : o[i8]? = some (.lst ((numD low high mn).map Sl.da))) (o3 : o[hq]? = some (.lst [.ow x, .ow y])) (o4 : o[x]? = some (.lst (sls yes))) (o5 : o[y]? = some (.lst (sls no)))
    (k0 : 0 ≤ kind) (k8 : kind ≤ 8) (la : a.length ≤ 1000) (lb : b.length ≤ 1000) (hlo : kind = 4 → ∃ l, low = some l)
    (k : ∀ F1 v Fs Hs θs, Rep F1 v (told (callS kind a b first last low high mn 1 0 9 yes no)) → WG B F1 Fs Hs θs rest D0 (ρ.set 10 (some (.da (.raw v)))) o) :
    WS B (tSeq (tAsg (tCallS (SpC (c__law_asked K)) (WE W) (tCons (tVar 1) (tCons (tVar 2) (tCons (tVar 3) (tCons (tVar 4) (tCons (tVar 8) (tCons (tVar 9) tNil))))))) (gName 10)) rest) D0 ρ o := by
  intro F H θ σ ok E hE
  obtain ⟨v1, s1, q1⟩ := ok.sl.at_ 1 _ r1
  obtain ⟨v2, s2, q2⟩ := ok.sl.at_ 2 _ r2
  obtain ⟨v3, s3, q3⟩ := ok.sl.at_ 3 _ r3
  obtain ⟨v4, s4, q4⟩ := ok.sl.at_ 4 _ r4
  obtain ⟨v8, s8, q8⟩ := ok.sl.at_ 8 _ r8
  obtain ⟨v9, s9, q9⟩ := ok.sl.at_ 9 _ r9
  obtain ⟨a1, t1, xs1, h1, w1⟩ := ok.own o1
  obtain ⟨a2, t2, xs2, h2, w2⟩ := ok.own o2
  obtain ⟨a3, t3, xs3, h3, w3⟩ := ok.own o3
  obtain ⟨a4, t4, xs4, h4, w4⟩ := ok.own o4
  obtain ⟨a5, t5, xs5, h5, w5⟩ := ok.own o5
  obtain ⟨_, rfl, e⟩ := q2; rw [t1] at e; cases e
  obtain ⟨_, rfl, e⟩ := q8; rw [t2] at e; cases e
  obtain ⟨_, rfl, e⟩ := q9; rw [t3] at e; cases e
  -- distinct places
  have dis : ∀ {i j : Nat} {c d : Addr}, θ[i]? = some c → θ[j]? = some d → i ≠ j → c ≠ d := fun {i j c d} hi hj n z => by
    subst z
    obtain ⟨b1, b2⟩ := List.getElem?_eq_some_iff.mp hi
    obtain ⟨b3, b4⟩ := List.getElem?_eq_some_iff.mp hj
    exact n ((List.getElem_inj ok.nd).mp (b2.trans b4.symm))
  simp only [List.nodup_cons, List.mem_cons, List.not_mem_nil, or_false, not_or, List.nodup_nil, and_true, not_false_eq_true] at nd
  obtain ⟨⟨d12, d13, d14, d15⟩, ⟨d23, d24, d25⟩, ⟨d34, d35⟩, d45⟩ := nd
  have ndθ : ([a1, a2, a3, a4, a5] : List Addr).Nodup := by
    simp only [List.nodup_cons, List.mem_cons, List.not_mem_nil, or_false, not_or, List.nodup_nil, and_true, not_false_eq_true]
    exact ⟨⟨dis t1 t2 d12, dis t1 t3 d13, dis t1 t4 d14, dis t1 t5 d15⟩, ⟨dis t2 t3 d23, dis t2 t4 d24, dis t2 t5 d25⟩, ⟨dis t3 t4 d34, dis t3 t5 d35⟩, dis t4 t5 d45⟩
  cases w3 with
  | cons w3a w3b =>
  cases w3b with
  | cons w3b w3c =>
  cases w3c
  obtain ⟨_, rfl, e⟩ := w3a; rw [t4] at e; cases e
  obtain ⟨_, rfl, e⟩ := w3b; rw [t5] at e; cases e
  have ob : ∀ (G : Hp) (θ' : List Addr) (j : Nat) c u, [a1, a2, a3, a4, a5][j]? = some c → [OO.lst ([D.str a, .str b].map Sl.da), .lst ((numD low high mn).map Sl.da), .lst [.ow 3, .ow 4], .lst (sls yes), .lst (sls no)][j]? = some u → θ' = [a1, a2, a3, a4, a5] → RepO (fun _ => none) H θ' c u := fun G θ' j c u e1 e2 e3 => by
    subst e3
    match j, e1, e2 with
    | 0, e1, e2 => cases e1; cases e2; exact ⟨_, h1, flatL_rep w1 (by simp [flat])⟩
    | 1, e1, e2 => cases e1; cases e2; exact ⟨_, h2, flatL_rep w2 flat_num⟩
    | 2, e1, e2 => cases e1; cases e2; exact ⟨_, h3, .cons ⟨_, rfl, rfl⟩ (.cons ⟨_, rfl, rfl⟩ .nil)⟩
    | 3, e1, e2 => cases e1; cases e2; exact ⟨_, h4, flatL_rep w4 flat_txs⟩
    | 4, e1, e2 => cases e1; cases e2; exact ⟨_, h5, flatL_rep w5 flat_txs⟩
    | n + 5, e1, e2 => simp at e1
  have kc : Ok ⟨fun _ => none, H, [a1, a2, a3, a4, a5]⟩ (fun _ => none) H [a1, a2, a3, a4, a5] (([v1, .ref a1, v3, v4, .ref a2, .ref a3] : List V).map some) (([.da (.int kind), .ow 0, .da (.int first), .da (.int last), .ow 1, .ow 2] : List Sl).map some)
      [OO.lst ([D.str a, .str b].map Sl.da), .lst ((numD low high mn).map Sl.da), .lst [.ow 3, .ow 4], .lst (sls yes), .lst (sls no)] := by
    refine ⟨Tr.refl _ _ _, (fun a w z => by cases z), rfl, ndθ, fun _ _ _ _ _ _ => rfl, fun j c u e1 e2 => ob F _ j c u e1 e2 rfl, ⟨rfl, fun i s e => ?_⟩⟩
    match i, e with
    | 0, e => cases e; exact ⟨_, rfl, flat_rep q1 True.intro⟩
    | 1, e => cases e; exact ⟨_, rfl, _, rfl, rfl⟩
    | 2, e => cases e; exact ⟨_, rfl, flat_rep q3 True.intro⟩
    | 3, e => cases e; exact ⟨_, rfl, flat_rep q4 True.intro⟩
    | 4, e => cases e; exact ⟨_, rfl, _, rfl, rfl⟩
    | 5, e => cases e; exact ⟨_, rfl, _, rfl, rfl⟩
    | n + 6, e => simp at e
  refine ⟨_, s1, _, s2, _, s3, _, s4, _, s8, _, s9, fun _ => none, [a1, a2, a3, a4, a5], [.da (.int kind), .ow 0, .da (.int first), .da (.int last), .ow 1, .ow 2], _,
    fun s o' => s = .da (told (callS kind a b first last low high mn 1 0 9 yes no)) ∧ Fp [OO.lst ([D.str a, .str b].map Sl.da), .lst ((numD low high mn).map Sl.da), .lst [.ow 3, .ow 4], .lst (sls yes), .lst (sls no)] o', fun _ _ _ => False, kc, ?_, ?_, fun _ _ _ _ _ _ _ _ _ _ _ z => z.elim⟩
  · exact ⟨kind, a, b, .ow 0, first, last, .ow 1, .ow 2, low, high, mn, 1, 0, 9, yes, no, rfl, ⟨k0, k8, la, lb, rfl, ⟨_, rfl, rfl, rfl, rfl, rfl, fun _ => ⟨rfl, rfl⟩⟩, hlo, fun _ => ⟨.ow 3, .ow 4, rfl, rfl, rfl⟩⟩, fun o' f => ⟨rfl, f⟩⟩
  · intro v s F' H' θ' o' k' rv p
    obtain ⟨rfl, f⟩ := p
    obtain ⟨tt, rfl⟩ := k'.tr.pre
    -- nothing that was is changed
    have look5 : ∀ (j : Nat) c u, [a1, a2, a3, a4, a5][j]? = some c → [OO.lst ([D.str a, .str b].map Sl.da), .lst ((numD low high mn).map Sl.da), .lst [.ow 3, .ow 4], .lst (sls yes), .lst (sls no)][j]? = some u → RepO F' H' ([a1, a2, a3, a4, a5] ++ tt) c u := fun j c u e1 e2 =>
      k'.ob j c u (by rw [List.getElem?_append_left (List.getElem?_eq_some_iff.mp e1).1]; exact e1) (f.get e2)
    have x1 : H' a1 = some (.lst xs1) := by
      obtain ⟨zs, e1, e2⟩ := look5 0 a1 _ rfl rfl
      rw [e1, flatL_eq e2 w1 (by simp [flat])]
    have x2 : H' a2 = some (.lst xs2) := by
      obtain ⟨zs, e1, e2⟩ := look5 1 a2 _ rfl rfl
      rw [e1, flatL_eq e2 w2 flat_num]
    have x3 : H' a3 = some (.lst [.ref a4, .ref a5]) := by
      obtain ⟨zs, e1, e2⟩ := look5 2 a3 _ rfl rfl
      cases e2 with
      | cons e2 e3 =>
        cases e3 with
        | cons e3 e4 =>
          cases e4
          obtain ⟨_, rfl, g1⟩ := e2
          obtain ⟨_, rfl, g2⟩ := e3
          cases g1
          cases g2
          exact e1
    have x4 : H' a4 = some (.lst xs4) := by
      obtain ⟨zs, e1, e2⟩ := look5 3 a4 _ rfl rfl
      rw [e1, flatL_eq e2 w4 flat_txs]
    have x5 : H' a5 = some (.lst xs5) := by
      obtain ⟨zs, e1, e2⟩ := look5 4 a5 _ rfl rfl
      rw [e1, flatL_eq e2 w5 flat_txs]
    have ex : Ex H H' := fun c w e => by
      by_cases m : c ∈ [a1, a2, a3, a4, a5]
      · simp only [List.mem_cons, List.not_mem_nil, or_false] at m
        rcases m with rfl | rfl | rfl | rfl | rfl
        · rw [x1, ← h1]; exact e
        · rw [x2, ← h2]; exact e
        · rw [x3, ← h3]; exact e
        · rw [x4, ← h4]; exact e
        · rw [x5, ← h5]; exact e
      · exact k'.tr.kp c w e m
    have new : ∀ c w, F' c = some w → H c = none := fun c w e => by
      rcases k'.tr.nw c w e with ⟨u, z⟩ | z
      · cases z
      · exact z
    refine k F' v F H θ rv F H' θ _ ((ok.ext ex).slots ((ok.ext ex).sl.set (RepS.dat (Rep.raw v)))) ⟨Tw.ext ex, k'.fh, fun c w e m => ?_, fun c w e => ?_, fun c w e => ok.tr.th c (new c w e), new⟩ E hE
    · obtain ⟨u, hu⟩ := ok.mem m
      rw [new c w e] at hu
      cases hu
    · cases z : F c with
      | none => rfl
      | some u =>
        have := ok.fh c u z
        rw [new c w e] at this
        cases this
end
end K03
end AB

set_option Elab.async false
set_option linter.all false
set_option maxRecDepth 100000
set_option maxHeartbeats 4000000
set_option autoImplicit false
namespace AB
open PySem L2 PySem.Spec PyProof.Rows He
namespace K03
local macro_rules | `(tactic| walk_at "e") => `(tactic| repeat' (first
  | (with_reducible refine s_seq ?_) | (with_reducible refine s_if ?_) | (with_reducible refine s_drop ?_) | (with_reducible refine s_ret ?_) | (with_reducible refine s_next ?_) | (with_reducible refine s_asg ?_)
  | (with_reducible refine g_name ?_)
  | (with_reducible refine t_test ?_) | (with_reducible refine t_B ?_) | (with_reducible refine t_or ?_) | (with_reducible refine t_and ?_) | (with_reducible refine t_not ?_)
  | ((with_reducible apply e_var); rfl) | (with_reducible refine e_int ?_) | (with_reducible refine e_str ?_) | (with_reducible refine e_bl ?_) | (with_reducible refine e_non ?_)
  | (with_reducible refine e_raw ?_) | (with_reducible refine ite_tt ?_) | (with_reducible refine ite_ff ?_) | (with_reducible refine ite_ntt ?_) | (with_reducible refine ite_nff ?_) | (with_reducible refine n_isiS ?_) | (with_reducible refine n_isiL ?_) | (with_reducible refine n_isiT ?_)
  | (with_reducible refine e_op ?_) | (with_reducible refine e_un ?_) | (with_reducible refine e_cb ?_) | (with_reducible refine e_callA ?_) | (with_reducible refine e_andV ?_) | (with_reducible refine e_if ?_)
  | (with_reducible refine a_cons ?_) | (with_reducible refine a_nil ?_)
  | (with_reducible refine o_gt ?_) | (with_reducible refine o_lt ?_) | (with_reducible refine o_le ?_) | (with_reducible refine o_ge ?_) | (with_reducible refine o_add ?_) | (with_reducible refine o_sub ?_) | (with_reducible refine o_neg ?_)
  | (with_reducible refine e_tup ?_) | (with_reducible refine e_lst ?_) | (with_reducible refine exd0 ?_) | (with_reducible refine exd1 ?_) | (with_reducible refine exd2 ?_) | (with_reducible refine exd3 ?_) | (with_reducible refine exd4 ?_) | (with_reducible refine exd5 ?_) | (with_reducible refine exd6 ?_)
  | (with_reducible refine o_isNotI ?_) | (with_reducible refine o_isNotN ?_) | (with_reducible refine o_isNotS ?_) | (with_reducible refine o_isI ?_) | (with_reducible refine o_isN ?_) | (with_reducible refine o_isS ?_) | (with_reducible refine o_isT ?_)
  | (with_reducible refine t_yes ?_) | (with_reducible refine gw_name (by decide) ?_)
  | (with_reducible refine s_par ?_) | (with_reducible refine ex2 ?_) | (with_reducible refine o_eqI ?_) | (with_reducible refine o_neI ?_) | (with_reducible refine o_ixL (by assumption) (by assumption) ?_)
  | (with_reducible refine e_sl ?_) | (with_reducible refine l_none ?_) | (with_reducible refine l_some ?_)
  | (with_reducible refine n_list (by assumption) ?_)
  | (with_reducible refine cat_in2 (by first | assumption | omega) (by omega) (by omega) ?_) | (with_reducible refine s_par3 ?_) | (with_reducible refine ex3 ?_)
  | (with_reducible refine cat_in (by first | assumption | omega) (by omega) (by omega) ?_)
  | (with_reducible refine ite_dec (fun h => absurd h (by decide)) (fun _ => ?_)) | (with_reducible refine ite_dec (fun _ => ?_) (fun h => absurd (by decide) h))
  | (with_reducible refine Exists.intro _ (And.intro rfl ?_))))
local macro_rules | `(tactic| walk_at "st") => `(tactic| simp only [List.map_cons, List.map_nil, List.length_cons, List.length_nil, Nat.reduceAdd, Nat.reduceSub, List.replicate, List.cons_append, List.nil_append])
variable {K : PySem.W.Frag} {B : Base} {W : WX} {ss : List Sl} {o : O} {Rt : Sl → O → Prop} {Xt : Addr → List (Str × D) → O → Prop}
theorem kwC {c : Nat} {s : Str} (h : c ∈ s.cps.toList) (h1 : c ∉ ("if" : Str).cps.toList) (h2 : c ∉ ("unless" : Str).cps.toList) : (decide (s = ("if" : Str)) || decide (s = ("unless" : Str))) = false := by
  rw [decide_eq_false (fun e => h1 (by rw [← e]; exact h)), decide_eq_false (fun e => h2 (by rw [← e]; exact h))]
  rfl
theorem cutQ {w q : Str} {c : Nat} (hw : isW w = true) (hq : q.cps.toList = [c]) (hc : inR c = true) (h1 : c ∉ ("if" : Str).cps.toList) (h2 : c ∉ ("unless" : Str).cps.toList) :
    isB (cutS w none (some 8) ++ q) ∧ isW (cutS w none (some 8) ++ q) = true ∧ 1 ≤ (cutS w none (some 8) ++ q).length ∧ (cutS w none (some 8) ++ q).length ≤ 9 := by
  obtain ⟨b, l1, l2, _, _⟩ := isW_parts hw
  have ql : q.length = 1 := by rw [len_toList, hq]; rfl
  have cl : (cutS w none (some 8)).length ≤ 8 := by rw [len_toList, cut8, List.length_take]; omega
  have hl : (cutS w none (some 8) ++ q).length ≤ 9 ∧ 1 ≤ (cutS w none (some 8) ++ q).length := by rw [slen_app]; omega
  have bb := b.cut.app (y := q) (by rw [hq]; simp [hc])
  exact ⟨bb, bb.w hl.2 (by omega) (kwC (c := c) (by rw [app_toList, hq]; simp) h1 h2), hl.2, hl.1⟩
theorem call_ok {kind : Int} {a b : Str} {first last : Int} {low high : Option Int} {mn : Int} {yes no : List Str} (k0 : 0 ≤ kind) (k5 : kind ≤ 5) (wa : isW a = true) (wb : isW b = true) (wa2 : isW (atM a last) = true) (wb2 : isW (atM b last) = true) (h0 : 0 ≤ first) (h1 : first ≤ last) (h2 : last ≤ 24)
    (fl : farN low = false) (fh : farN high = false) (m0 : 0 ≤ mn) (m1 : mn ≤ 1000000) (hz : kind = 0 → belowZ high = false ∧ crossd low high = false) : (callS kind a b first last low high mn 1 0 9 yes no).1 = .ok := by
  have n2 : ([a, b].any fun n => !isW n || !isW (atM n last)) = false := by simp [wa, wb, wa2, wb2]
  have n1 : ([a].any fun n => !isW n || !isW (atM n last)) = false := by simp [wa, wa2]
  have fm : farN (some mn) = false := farS (by omega) (by omega)
  have hk : kind = 0 ∨ kind = 1 ∨ kind = 2 ∨ kind = 3 ∨ kind = 4 ∨ kind = 5 := by omega
  have dm : decide (mn < 0) = false := decide_eq_false (by omega)
  rcases hk with rfl | rfl | rfl | rfl | rfl | rfl
  · obtain ⟨z1, z2⟩ := hz rfl
    exact chk_of h2 (by simp [List.any, fl, fh]) h0 h1 n2 (by rw [z1, z2]; rfl)
  · exact chk_of h2 (by simp [List.any, fm]) h0 h1 n2 dm
  · exact chk_of h2 (by simp [List.any, fm]) h0 h1 n2 dm
  · exact chk_of h2 (by simp [List.any, fm]) (by omega) (Int.le_refl _) n1 dm
  · exact chk_of h2 (by simp [List.any, fm, fl]) h0 h1 n2 dm
  · exact chk_of h2 (by simp [List.any, fm]) h0 h1 n2 dm
theorem call_rows {kind : Int} {a b : Str} {first last : Int} {low high : Option Int} {mn : Int} {yes no : List Str} (k0 : 0 ≤ kind) (k5 : kind ≤ 5) (h1 : first ≤ last) :
    (callS kind a b first last low high mn 1 0 9 yes no).2 = .lst ((ownR kind a b first last low high mn).map (side yes (if kind = 4 then [] else no))) := by
  have hk : kind = 0 ∨ kind = 1 ∨ kind = 2 ∨ kind = 3 ∨ kind = 4 ∨ kind = 5 := by omega
  rcases hk with rfl | rfl | rfl | rfl | rfl | rfl
  · rfl
  · rfl
  · rfl
  · unfold ownR
    rw [own3 h1]
    rfl
  · rfl
  · rfl
theorem own_len {kind : Int} {a b : Str} {first last : Int} {low high : Option Int} {mn : Int} (h0 : 0 ≤ first) (h2 : last ≤ 24) : (ownR kind a b first last low high mn).length ≤ 100 := by
  have hl : ∀ t, (fOwn kind a b first last low high mn t).length ≤ 2 := fun t => by
    unfold fOwn fStock fAfter fWithin fLoss fTurn
    cases low <;> cases high <;> (repeat' split) <;> simp
  have := rowsU_len (first := first) hl (many first last)
  have hm : many first last ≤ 25 := by unfold many; omega
  unfold ownR
  omega
theorem own_keys {kind : Int} {a b : Str} {first last : Int} {low high : Option Int} {mn : Int} {l : List (Key × D)} (k0 : 0 ≤ kind) (k5 : kind ≤ 5) (m0 : 0 ≤ mn) (ka : Keys l a first last) (kb : Keys l b first last) : ∀ r, r ∈ ownR kind a b first last low high mn → Has (look l) r.1 ∧ Has (look l) r.2.1 := fun r hr => by
  obtain ⟨k, hk, hx⟩ := mem_rowsU hr
  have kk : (k : Int) ≤ last - first := by unfold many at hk; omega
  have ha : ∀ t, first ≤ t → t ≤ last → Has (look l) (some (atM a t)) := fun t p q s e => by cases e; exact ka t p q
  have hb : ∀ t, first ≤ t → t ≤ last → Has (look l) (some (atM b t)) := fun t p q s e => by cases e; exact kb t p q
  have hn : Has (look l) none := fun s e => by cases e
  have hk6 : kind = 0 ∨ kind = 1 ∨ kind = 2 ∨ kind = 3 ∨ kind = 4 ∨ kind = 5 := by omega
  rcases hk6 with rfl | rfl | rfl | rfl | rfl | rfl
  · have hx' : r ∈ fStock a b low high (first + k) := hx
    unfold fStock at hx'
    rcases List.mem_append.mp hx' with q | q
    · cases low with
      | none => cases q
      | some i =>
        rw [List.mem_singleton.mp q]
        exact ⟨hb _ (by omega) (by omega), ha _ (by omega) (by omega)⟩
    · cases high with
      | none => cases q
      | some i =>
        rw [List.mem_singleton.mp q]
        exact ⟨ha _ (by omega) (by omega), hb _ (by omega) (by omega)⟩
  · have hx' : r ∈ fAfter a b first mn (first + k) := hx
    unfold fAfter at hx'
    rw [List.mem_singleton.mp hx']
    refine ⟨ha _ (by omega) (by omega), ?_⟩
    show Has (look l) (if _ then _ else _)
    split
    · exact hn
    · exact hb _ (by omega) (by omega)
  · have hx' : r ∈ fWithin a b last mn (first + k) := hx
    unfold fWithin at hx'
    split at hx'
    · rw [List.mem_singleton.mp hx']
      exact ⟨ha _ (by omega) (by omega), hb _ (by omega) (by omega)⟩
    · cases hx'
  · have hx' : r ∈ (if first + (k : Int) = last then [((none : Option Str), some (atM a (first + k)), -mn)] else []) := hx
    split at hx'
    · rw [List.mem_singleton.mp hx']
      exact ⟨hn, ha _ (by omega) (by omega)⟩
    · cases hx'
  · have hx' : r ∈ fLoss a b (low.getD 0) mn (first + k) := hx
    unfold fLoss at hx'
    rw [List.mem_singleton.mp hx']
    exact ⟨hb _ (by omega) (by omega), ha _ (by omega) (by omega)⟩
  · have hx' : r ∈ fTurn a b mn (first + k) := hx
    unfold fTurn at hx'
    rw [List.mem_singleton.mp hx']
    exact ⟨ha _ (by omega) (by omega), hb _ (by omega) (by omega)⟩
theorem o_eqSnap {x y : Sl} {d e : D} {P : Sl → O → Prop} (hx : ∀ F H θ σ (ρ : R) v, Ok B F H θ σ ρ o → RepS F θ v x → Rep H v d) (hy : ∀ F H θ σ (ρ : R) v, Ok B F H θ σ ρ o → RepS F θ v y → Rep H v e) (pd : d.py.plain = true) (pe : e.py.plain = true) (hm : min d.py.depth e.py.depth ≤ 60) (p : P (.da (.bl (PyData.eqv d.py e.py))) o) : A2 B (rEqP K) x y o P :=
  A2.of (z := .da (.bl (PyData.eqv d.py e.py))) (fun F H θ σ ρ v u k r1 r2 Q q => ⟨_, _, (hx F H θ σ ρ v k r1).dp pd, (hy F H θ σ ρ u k r2).dp pe, pd, pe, hm, q _ (Rep.bl _)⟩) p
theorem py_two (yes no : List Str) : (D.lst [.lst (txs yes), .lst (txs no)]).py.plain = true ∧ (D.lst [.lst (txs yes), .lst (txs no)]).py.depth ≤ 60 := by
  have dt : ∀ l : List Str, PyData.depthAll (D.pyL (txs l)) ≤ 1 := fun l => depthL fun d hd => by
    unfold txs at hd
    obtain ⟨s, _, rfl⟩ := List.mem_map.mp hd
    simp [D.py, PyData.depth]
  refine ⟨?_, ?_⟩
  · show (PyData.plainAll (D.pyL (txs yes)) && (PyData.plainAll (D.pyL (txs no)) && true)) = true
    rw [py_txs, py_txs]
    rfl
  · have a1 := dt yes
    have a2 := dt no
    simp only [D.py, D.pyL, PyData.depth, PyData.depthAll]
    omega
theorem py_let (yes no : List Str) (rows : List Row3) : (D.tup [.str "let", .lst (rows.map (side yes no))]).py.plain = true ∧ (D.tup [.str "let", .lst (rows.map (side yes no))]).py.depth ≤ 60 := by
  have pr : ∀ d, d ∈ rows.map (side yes no) → d.py.plain = true ∧ d.py.depth ≤ 5 := fun d hd => by
    obtain ⟨r, _, rfl⟩ := List.mem_map.mp hd
    exact py_side _ _ _
  refine ⟨?_, ?_⟩
  · show (true && (PyData.plainAll (D.pyL _) && true)) = true
    rw [plainL fun d hd => (pr d hd).1]
    rfl
  · have a2 := depthL fun d hd => (pr d hd).2
    simp only [D.py, D.pyL, PyData.depth, PyData.depthAll]
    omega
end K03
end AB

set_option Elab.async false
set_option linter.all false
set_option maxRecDepth 100000
set_option maxHeartbeats 4000000
set_option autoImplicit false
namespace AB
open PySem L2 PySem.Spec PyProof.Rows He
namespace K03
local macro_rules | `(tactic| walk_at "e") => `(tactic| repeat' (first
  | (with_reducible refine s_seq ?_) | (with_reducible refine s_if ?_) | (with_reducible refine s_drop ?_) | (with_reducible refine s_ret ?_) | (with_reducible refine s_next ?_) | (with_reducible refine s_asg ?_)
  | (with_reducible refine g_name ?_)
  | (with_reducible refine t_test ?_) | (with_reducible refine t_B ?_) | (with_reducible refine t_or ?_) | (with_reducible refine t_and ?_) | (with_reducible refine t_not ?_)
  | ((with_reducible apply e_var); rfl) | (with_reducible refine e_int ?_) | (with_reducible refine e_str ?_) | (with_reducible refine e_bl ?_) | (with_reducible refine e_non ?_)
  | (with_reducible refine e_raw ?_) | (with_reducible refine ite_tt ?_) | (with_reducible refine ite_ff ?_) | (with_reducible refine ite_ntt ?_) | (with_reducible refine ite_nff ?_) | (with_reducible refine n_isiS ?_) | (with_reducible refine n_isiL ?_) | (with_reducible refine n_isiT ?_)
  | (with_reducible refine e_op ?_) | (with_reducible refine e_un ?_) | (with_reducible refine e_cb ?_) | (with_reducible refine e_callA ?_) | (with_reducible refine e_andV ?_) | (with_reducible refine e_if ?_)
  | (with_reducible refine a_cons ?_) | (with_reducible refine a_nil ?_)
  | (with_reducible refine o_gt ?_) | (with_reducible refine o_lt ?_) | (with_reducible refine o_le ?_) | (with_reducible refine o_ge ?_) | (with_reducible refine o_add ?_) | (with_reducible refine o_sub ?_) | (with_reducible refine o_neg ?_)
  | (with_reducible refine e_tup ?_) | (with_reducible refine e_lst ?_) | (with_reducible refine exd0 ?_) | (with_reducible refine exd1 ?_) | (with_reducible refine exd2 ?_) | (with_reducible refine exd3 ?_) | (with_reducible refine exd4 ?_) | (with_reducible refine exd5 ?_) | (with_reducible refine exd6 ?_)
  | (with_reducible refine o_isNotI ?_) | (with_reducible refine o_isNotN ?_) | (with_reducible refine o_isNotS ?_) | (with_reducible refine o_isI ?_) | (with_reducible refine o_isN ?_) | (with_reducible refine o_isS ?_) | (with_reducible refine o_isT ?_)
  | (with_reducible refine t_yes ?_) | (with_reducible refine gw_name (by decide) ?_)
  | (with_reducible refine s_par ?_) | (with_reducible refine ex2 ?_) | (with_reducible refine o_eqI ?_) | (with_reducible refine o_neI ?_) | (with_reducible refine o_ixL (by assumption) (by assumption) ?_)
  | (with_reducible refine e_sl ?_) | (with_reducible refine l_none ?_) | (with_reducible refine l_some ?_)
  | (with_reducible refine n_list (by assumption) ?_)
  | (with_reducible refine cat_in2 (by first | assumption | omega) (by omega) (by omega) ?_) | (with_reducible refine s_par3 ?_) | (with_reducible refine ex3 ?_)
  | (with_reducible refine cat_in (by first | assumption | omega) (by omega) (by omega) ?_)
  | (with_reducible refine ite_dec (fun h => absurd h (by decide)) (fun _ => ?_)) | (with_reducible refine ite_dec (fun _ => ?_) (fun h => absurd (by decide) h))
  | (with_reducible refine Exists.intro _ (And.intro rfl ?_))))
local macro_rules | `(tactic| walk_at "st") => `(tactic| simp only [List.map_cons, List.map_nil, List.length_cons, List.length_nil, Nat.reduceAdd, Nat.reduceSub, List.replicate, List.cons_append, List.nil_append])
variable {K : PySem.W.Frag} {B : Base} {W : WX} {ss : List Sl} {o : O} {Rt : Sl → O → Prop} {Xt : Addr → List (Str × D) → O → Prop}
def tailC (K : PySem.W.Frag) (W : WX) : TS :=
  (tSeq (tAsg (tCallS (SpC (c__law_asked K)) (WE W) (tCons (tVar 1) (tCons (tVar 2) (tCons (tVar 3) (tCons (tVar 4) (tCons (tVar 8) (tCons (tVar 9) tNil))))))) (gName 10))
  (tSeq (tAsg (tCallS (SpC (c__law_sided K)) (WE W) (tCons (tCallS (SpC (c__law_own K)) (WE W) (tCons (tVar 1) (tCons (tVar 2) (tCons (tVar 3) (tCons (tVar 4) (tCons (tVar 8) tNil)))))) (tCons (tLst (tCons (tOp (rIxA K) (tVar 5) (tC (.int 0))) (tCons (tIf (tTest (tOp (rEqP K) (tVar 1) (tC (.int 4)))) (tLst tNil) (tOp (rIxA K) (tVar 5) (tC (.int 1)))) tNil))) tNil))) (gName 11))
  (tSeq (tIfS (tOr (tTest (tOp (rNeP K) (tVar 10) (tTup (tCons (tC (.str "let")) (tCons (tVar 11) tNil))))) (tOr (tTest (tOp (rNeP K) (tVar 9) (tVar 5))) (tNot (tB (tCB (rIsi K) (tCons (tOp (rIxA K) (tVar 10) (tC (.int 1))) (tCons (tC (.ty "list")) tNil))))))) (tRet (tC (.bl false))) tNext)
  (tSeq (tFor (iSq K (tOp (rIxA K) (tVar 10) (tC (.int 1)))) (gName 12) (tIfS (tNot (tB (tCB (rIsi K) (tCons (tVar 12) (tCons (tC (.ty "tuple")) tNil))))) (tRet (tC (.bl false))) tNext))
  (tSeq (tAsg (tCallS (SpC (c__law_meaning K)) (WE W) (tCons (tVar 1) (tCons (tVar 2) (tCons (tVar 3) (tCons (tVar 4) (tCons (tVar 8) (tCons (tVar 6) tNil))))))) (gName 13))
  (tSeq (tIfS (tTest (tOp (rNeP K) (tCallS (SpC (c__law_keeps K)) (WE W) (tCons (tOp (rIxA K) (tVar 10) (tC (.int 1))) (tCons (tVar 6) tNil))) (tVar 13))) (tRet (tC (.bl false))) tNext)
  (tSeq (tFor (iSq K (tOp (rIxA K) (tVar 10) (tC (.int 1)))) (gName 12) (tSeq (tDrop (tBM K "list" rAppend (tOp (rIxA K) (tVar 12) (tC (.int 3))) (tCons (tC (.str "z")) tNil)))
  (tDrop (tBM K "list" rAppend (tOp (rIxA K) (tVar 12) (tC (.int 4))) (tCons (tC (.str "z")) tNil)))))
  (tRet (tAndV (tOp (rEqP K) (tVar 9) (tVar 5)) (tOp (rEqP K) (tCallS (SpC (c__law_asked K)) (WE W) (tCons (tVar 1) (tCons (tVar 2) (tCons (tVar 3) (tCons (tVar 4) (tCons (tVar 8) (tCons (tVar 9) tNil))))))) (tTup (tCons (tC (.str "let")) (tCons (tVar 11) tNil)))))))))))))
theorem numbers_at {o : O} {i8 : Nat} {low high : Option Int} {mn : Int} (h : o[i8]? = some (.lst ((numD low high mn).map Sl.da))) (m0 : 0 ≤ mn) {kind : Int} (hlo : kind = 4 → ∃ l, low = some l) : Nums o kind (.ow i8) low high mn := ⟨⟨_, h, rfl, rfl, rfl⟩, hlo, m0⟩
theorem counted_tail {ρ : R} {j : Nat} {kind : Int} {a b : Str} {first last : Int} {low high : Option Int} {mn : Int} {yes no : List Str} {n1 i8 hq x y : Nat} {l : List (Key × D)} {u7 : Option Sl} (hB : B.θ.length ≤ o.length) (pu : Pu o j) (nd : [n1, i8, hq, x, y].Nodup)
    (hj : n1 ≠ j ∧ i8 ≠ j ∧ hq ≠ j ∧ x ≠ j ∧ y ≠ j)
    (o1 : o[n1]? = some (.lst ([D.str a, .str b].map Sl.da))) (o2 : o[i8]? = some (.lst ((numD low high mn).map Sl.da))) (o3 : o[hq]? = some (.lst [.ow x, .ow y])) (o4 : o[x]? = some (.lst (sls yes))) (o5 : o[y]? = some (.lst (sls no)))
    (hρ : ρ = [some (.ow j), some (.da (.int kind)), some (.ow n1), some (.da (.int first)), some (.da (.int last)), some (.da (.lst [.lst (txs yes), .lst (txs no)])), some (.da (.dic l)), u7, some (.ow i8), some (.ow hq), none, none, none, none])
    (k0 : 0 ≤ kind) (k5 : kind ≤ 5) (wa : isW a = true) (wb : isW b = true) (wa2 : isW (atM a last) = true) (wb2 : isW (atM b last) = true) (la : a.length ≤ 1000) (lb : b.length ≤ 1000) (h0 : 0 ≤ first) (h1 : first ≤ last) (h2 : last ≤ 24)
    (ly : yes.length ≤ 1000) (ln : no.length ≤ 1000)
    (fl : farN low = false) (fh : farN high = false) (m0 : 0 ≤ mn) (m1 : mn ≤ 1000000) (hlo : kind = 4 → ∃ l, low = some l) (hz : kind = 0 → belowZ high = false ∧ crossd low high = false) (ka : Keys l a first last) (kb : Keys l b first last)
    (h : ∀ o', Fj j o o' → Rt (.da (.bl true)) o') : WS B (tailC K W) { nx := fun _ o => Rt (.da .non) o, rt := Rt } ρ o := by
  subst hρ
  obtain ⟨j1, j2, j3, j4, j5⟩ := hj
  have cok := call_ok (yes := yes) (no := no) k0 k5 wa wb wa2 wb2 h0 h1 h2 fl fh m0 m1 hz
  have crow := call_rows (a := a) (b := b) (low := low) (high := high) (mn := mn) (yes := yes) (no := no) (last := last) (first := first) k0 k5 h1
  have ctold : told (callS kind a b first last low high mn 1 0 9 yes no) = .tup [.str "let", .lst ((ownR kind a b first last low high mn).map (side yes (if kind = 4 then [] else no)))] := by rw [told_ok cok, crow]
  generalize hno : (if kind = 4 then [] else no) = no2 at *
  have olen := own_len (kind := kind) (a := a) (b := b) (low := low) (high := high) (mn := mn) h0 h2
  have okeys := own_keys (low := low) (high := high) k0 k5 m0 ka kb
  have lno2 : no2.length ≤ 1000 := by
    rw [← hno]
    split
    · exact Nat.zero_le _
    · exact ln
  unfold tailC
  refine asked_call (kind := kind) (a := a) (b := b) (first := first) (last := last) (low := low) (high := high) (mn := mn) (yes := yes) (no := no) nd rfl rfl rfl rfl rfl rfl o1 o2 o3 o4 o5 k0 (by omega) la lb hlo fun F1 v Fs Hs θs hrep => ?_
  rw [ctold] at hrep
  generalize hrows : ownR kind a b first last low high mn = rows at *
  -- due
  refine g_seq (fun ρ' o' => Fp o o' ∧ ρ' = [some (.ow j), some (.da (.int kind)), some (.ow n1), some (.da (.int first)), some (.da (.int last)), some (.da (.lst [.lst (txs yes), .lst (txs no)])), some (.da (.dic l)), u7, some (.ow i8), some (.ow hq), some (.da (.raw v)), some (.da (.lst (rows.map (side yes no2)))), none, none]) ?_ ?_
  · refine s_asg (e_callA (a_cons (e_callA ?_)))
    refine a_cons (e_var rfl (a_cons (e_var rfl (a_cons (e_var rfl (a_cons (e_var rfl (a_cons (e_var rfl (a_nil ?_))))))))))
    refine ⟨kind, a, b, .ow n1, first, last, .ow i8, low, high, mn, rfl, k0, k5, la, lb, o1, numbers_at o2 m0 hlo, h0, h1, h2, fun o' f => ?_⟩
    rw [hrows]
    refine a_cons (e_lst ?_)
    refine a_cons (e_op (e_var rfl (e_int (o_ix at0 ?_))))
    refine a_cons (e_if (t_test (e_op (e_var rfl (e_int (o_eqI ⟨_, rfl, ite_dec (fun h4 => ?_) fun h4 => ?_⟩))))))
    · rw [if_pos h4] at hno
      subst hno
      refine e_lst (a_nil (exd0 (a_nil (exd2 (a_nil ⟨rows, yes, [], rfl, by omega, g_name ⟨f, rfl⟩⟩)))))
    · rw [if_neg h4] at hno
      subst hno
      refine e_op (e_var rfl (e_int (o_ix at1 (a_nil (exd2 (a_nil ⟨rows, yes, no, rfl, by omega, g_name ⟨f, rfl⟩⟩))))))
  rintro ρ1 oo1 ⟨f1, rfl⟩
  have p1 := f1.get o1
  have p2 := f1.get o2
  have p3 := f1.get o3
  have p4 := f1.get o4
  have p5 := f1.get o5
  have plet := py_let yes no2 rows
  have ptwo := py_two yes no
  have prow : ∀ d, d ∈ rows.map (side yes no2) → ∃ ds, d = .tup ds := fun d hd => by
    obtain ⟨r, _, rfl⟩ := List.mem_map.mp hd
    exact ⟨_, rfl⟩
  have prowD : ∀ d, d ∈ rows.map (side yes no2) → rowD d := fun d hd => by
    obtain ⟨r, _, rfl⟩ := List.mem_map.mp hd
    have st : ∀ (l : List Str) (y : D), y ∈ txs l → isStr y := fun l y hy => by
      unfold txs at hy
      obtain ⟨s, _, rfl⟩ := List.mem_map.mp hy
      exact True.intro
    exact ⟨_, _, _, _, _, rfl, st _, st _, by simp [txs]; omega, by simp [txs]; omega⟩
  refine g_chk (fun F H θ σ ok g => ?_) ?_
  · have hl := ok.sl.len
    obtain ⟨u5, e5, w5⟩ := snap_da ok (i := 5) rfl
    obtain ⟨u9, e9, w9⟩ := ok.sl.at_ 9 _ rfl
    have w9' := own_rep2 ok p3 p4 p5 w9
    obtain ⟨u11, e11, w11⟩ := snap_da ok (i := 11) rfl
    have w10 := hrep.mono g.inh
    refine ⟨_, ((((sls0 (n := 14) hl).put (i := 5) e5 (RepS.dat w5)).put (i := 9) e9 (RepS.dat w9')).put (i := 10) (snap_raw ok rfl) (RepS.dat w10)).put (i := 11) e11 (RepS.dat w11), ?_⟩
    walk_at "e"
    refine o_neSame plet.1 plet.2 ?_
    walk_at "e"
    refine o_neSame ptwo.1 ptwo.2 ?_
    walk_at "e"
    refine o_ixT at1 ?_
    walk_at "e"
    rfl
  refine g_isi rfl rfl hrep prow ?_
  refine g_seq (fun ρ' o' => o' = oo1 ∧ ρ' = [some (.ow j), some (.da (.int kind)), some (.ow n1), some (.da (.int first)), some (.da (.int last)), some (.da (.lst [.lst (txs yes), .lst (txs no)])), some (.da (.dic l)), u7, some (.ow i8), some (.ow hq), some (.da (.raw v)), some (.da (.lst (rows.map (side yes no2)))), none, some (.da (.bl (keepsR (look l) rows)))]) ?_ ?_
  · refine s_asg (e_callA ?_)
    walk_at "e"
    refine ⟨kind, a, b, .ow n1, first, last, .ow i8, low, high, mn, l, rfl, k0, k5, la, lb, p1, numbers_at p2 m0 hlo, h0, h1, h2, ka, kb, g_name ⟨rfl, ?_⟩⟩
    rw [hrows]
    rfl
  rintro ρ2 oo2 ⟨rfl, rfl⟩
  refine g_chk (fun F H θ σ ok g => ?_) ?_
  · have hl := ok.sl.len
    obtain ⟨u6, e6, w6⟩ := snap_da ok (i := 6) rfl
    obtain ⟨u13, e13, w13⟩ := snap_da ok (i := 13) rfl
    have w10 := hrep.mono g.inh
    refine ⟨_, (((sls0 (n := 14) hl).put (i := 6) e6 (RepS.dat w6)).put (i := 10) (snap_raw ok rfl) (RepS.dat w10)).put (i := 13) e13 (RepS.dat w13), ?_⟩
    refine t_test (e_op (e_callA (a_cons (e_op (e_var rfl (e_int (o_ixT at1 ?_)))))))
    refine a_cons (e_var rfl (a_nil ⟨rows, fun _ => [.lst (txs yes), .lst (txs no2)], l, rfl, okeys, ?_⟩))
    refine e_var rfl (o_neB ⟨_, rfl, ?_⟩)
    rw [beq_self_eq_true]
    rfl
  refine g_spoil rfl rfl hrep prowD (by rw [List.length_map]; omega) ?_
  refine s_ret (e_andV (e_op (e_var rfl (e_var rfl (o_eqSnap (d := .lst [.lst (txs yes), .lst (txs no)]) (e := .lst [.lst (txs yes), .lst (txs no)]) (fun F H θ σ ρ v k r => own_rep2 k p3 p4 p5 r) (fun F H θ σ ρ v k r => Rep.mono k.fh r) ptwo.1 ptwo.1 (by omega) ⟨_, rfl, ?_⟩)))))
  rw [eqv_refl _ ptwo.1]
  refine ite_tt (e_op (e_callA ?_))
  walk_at "e"
  refine ask_ok (a := a) (b := b) (low := low) (high := high) (mn := mn) (helper := 1) (least := 0) (most := 9) (yes := yes) (no := no) ⟨k0, by omega, la, lb, p1, ⟨_, p2, rfl, rfl, rfl, rfl, fun _ => ⟨rfl, rfl⟩⟩, hlo, fun _ => ⟨_, _, p3, p4, p5⟩⟩ cok fun o' f2 => ?_
  rw [crow]
  refine e_tup (a_cons (e_str (a_cons (e_var rfl (a_nil (exd2 ?_))))))
  refine o_eqSame plet.1 plet.2 ?_
  exact h _ ((Fj.refl pu).ofFp (f1.trans f2))
end K03
end AB

set_option Elab.async false
set_option linter.all false
set_option maxRecDepth 100000
set_option maxHeartbeats 4000000
set_option autoImplicit false
namespace AB
open PySem L2 PySem.Spec PyProof.Rows He
namespace K03
local macro_rules | `(tactic| walk_at "e") => `(tactic| repeat' (first
  | (with_reducible refine s_seq ?_) | (with_reducible refine s_if ?_) | (with_reducible refine s_drop ?_) | (with_reducible refine s_ret ?_) | (with_reducible refine s_next ?_) | (with_reducible refine s_asg ?_)
  | (with_reducible refine g_name ?_)
  | (with_reducible refine t_test ?_) | (with_reducible refine t_B ?_) | (with_reducible refine t_or ?_) | (with_reducible refine t_and ?_) | (with_reducible refine t_not ?_)
  | ((with_reducible apply e_var); rfl) | (with_reducible refine e_int ?_) | (with_reducible refine e_str ?_) | (with_reducible refine e_bl ?_) | (with_reducible refine e_non ?_)
  | (with_reducible refine e_raw ?_) | (with_reducible refine ite_tt ?_) | (with_reducible refine ite_ff ?_) | (with_reducible refine ite_ntt ?_) | (with_reducible refine ite_nff ?_) | (with_reducible refine n_isiS ?_) | (with_reducible refine n_isiL ?_) | (with_reducible refine n_isiT ?_)
  | (with_reducible refine e_op ?_) | (with_reducible refine e_un ?_) | (with_reducible refine e_cb ?_) | (with_reducible refine e_callA ?_) | (with_reducible refine e_andV ?_) | (with_reducible refine e_if ?_)
  | (with_reducible refine a_cons ?_) | (with_reducible refine a_nil ?_)
  | (with_reducible refine o_gt ?_) | (with_reducible refine o_lt ?_) | (with_reducible refine o_le ?_) | (with_reducible refine o_ge ?_) | (with_reducible refine o_add ?_) | (with_reducible refine o_sub ?_) | (with_reducible refine o_neg ?_)
  | (with_reducible refine e_tup ?_) | (with_reducible refine e_lst ?_) | (with_reducible refine exd0 ?_) | (with_reducible refine exd1 ?_) | (with_reducible refine exd2 ?_) | (with_reducible refine exd3 ?_) | (with_reducible refine exd4 ?_) | (with_reducible refine exd5 ?_) | (with_reducible refine exd6 ?_)
  | (with_reducible refine o_isNotI ?_) | (with_reducible refine o_isNotN ?_) | (with_reducible refine o_isNotS ?_) | (with_reducible refine o_isI ?_) | (with_reducible refine o_isN ?_) | (with_reducible refine o_isS ?_) | (with_reducible refine o_isT ?_)
  | (with_reducible refine t_yes ?_) | (with_reducible refine gw_name (by decide) ?_)
  | (with_reducible refine s_par ?_) | (with_reducible refine ex2 ?_) | (with_reducible refine o_eqI ?_) | (with_reducible refine o_neI ?_) | (with_reducible refine o_ixL (by assumption) (by assumption) ?_)
  | (with_reducible refine e_sl ?_) | (with_reducible refine l_none ?_) | (with_reducible refine l_some ?_)
  | (with_reducible refine n_list (by assumption) ?_)
  | (with_reducible refine cat_in2 (by first | assumption | omega) (by omega) (by omega) ?_) | (with_reducible refine s_par3 ?_) | (with_reducible refine ex3 ?_)
  | (with_reducible refine cat_in (by first | assumption | omega) (by omega) (by omega) ?_)
  | (with_reducible refine ite_dec (fun h => absurd h (by decide)) (fun _ => ?_)) | (with_reducible refine ite_dec (fun _ => ?_) (fun h => absurd (by decide) h))
  | (with_reducible refine Exists.intro _ (And.intro rfl ?_))))
local macro_rules | `(tactic| walk_at "st") => `(tactic| simp only [List.map_cons, List.map_nil, List.length_cons, List.length_nil, Nat.reduceAdd, Nat.reduceSub, List.replicate, List.cons_append, List.nil_append])
variable {K : PySem.W.Frag} {B : Base} {W : WX} {ss : List Sl} {o : O} {Rt : Sl → O → Prop} {Xt : Addr → List (Str × D) → O → Prop}
theorem w__law_counted (hB : B.θ.length = o.length) (c : c__law_counted K ss o Rt Xt) : Wf (r__law_counted K W) 14 B ss o Rt := by
  obtain ⟨j, kind, rfl, pu, k0, k5, h⟩ := c
  have jl := pu.lt
  unfold Wf r__law_counted
  walk_at "st"
  refine s_seq (s_asg (e_callA ?_))
  walk_at "e"
  refine ⟨j, 2, rfl, pu, by decide, by decide, fun ws o1 hws hl f1 => g_name ?_⟩
  obtain ⟨w0, w1, rfl⟩ : ∃ w0 w1, ws = [w0, w1] := by
    match ws, hl with
    | [w0, w1], _ => exact ⟨w0, w1, rfl⟩
  have hw0 := hws w0 (by simp)
  have hw1 := hws w1 (by simp)
  have q1 : ("q" : Str).cps.toList = [113] := by decide +kernel
  have q2 : ("r" : Str).cps.toList = [114] := by decide +kernel
  obtain ⟨ba, wa, a1, a9⟩ := cutQ hw0 q1 (by decide) (by decide +kernel) (by decide +kernel)
  obtain ⟨bb, wb, b1, b9⟩ := cutQ hw1 q2 (by decide) (by decide +kernel) (by decide +kernel)
  have l0 := (isW_parts hw0).2.2.1
  have l1 := (isW_parts hw1).2.2.1
  refine s_seq (s_asg (e_lstO ?_))
  refine a_cons (e_op (e_sl (e_op (e_var rfl (e_int (o_ix (d := .str w0) rfl ?_))))))
  refine l_none (l_some (e_int ⟨_, rfl, sl_str (sizeBig (by omega)) ?_⟩))
  refine e_str (o_addS (sizeBig (by rw [← slen_app]; omega)) ?_)
  refine a_cons (e_op (e_sl (e_op (e_var rfl (e_int (o_ix (d := .str w1) rfl ?_))))))
  refine l_none (l_some (e_int ⟨_, rfl, sl_str (sizeBig (by omega)) ?_⟩))
  refine e_str (o_addS (sizeBig (by rw [← slen_app]; omega)) (a_nil ⟨sizeBig (Nat.le_of_ble_eq_true rfl), g_name ?_⟩))
  generalize cutS w0 none (some 8) ++ ("q" : Str) = a at ba wa a1 a9 ⊢
  generalize cutS w1 none (some 8) ++ ("r" : Str) = b at bb wb b1 b9 ⊢
  have on1 : (o1 ++ [OO.lst [.da (.str a), .da (.str b)]])[o1.length]? = some (.lst ([D.str a, .str b].map Sl.da)) := get_new
  have f2 := f1.add [OO.lst [.da (.str a), .da (.str b)]]
  have n1j : o1.length ≠ j := by have := f1.len; omega
  have n1o : o.length ≤ o1.length := f1.len
  generalize o1 ++ [OO.lst [.da (.str a), .da (.str b)]] = o2 at on1 f2 ⊢
  generalize o1.length = n1 at on1 n1j n1o ⊢
  clear f1
  walk_at "e"
  refine ⟨j, rfl, f2.pu, fun first last o3 h0 h1 h2 f3 => ?_⟩
  refine g_unL (ss := [.da (.int first), .da (.int last)]) rfl rfl (g_cons (g_name (g_cons (g_name (g_nil ?_)))))
  have on3 := f3.at on1 n1j
  have f03 := f2.trans f3
  walk_at "e"
  refine ⟨j, ["m", "n", "o"], rfl, f3.pu, by decide, fun yes no o4 y1 y2 f4 => g_name ?_⟩
  have on4 := f4.at on3 n1j
  have f04 := f03.trans f4
  have al : a.length ≤ 1000 := by omega
  have bl : b.length ≤ 1000 := by omega
  walk_at "e"
  refine ⟨j, .ow n1, [a, b], first, last, rfl, f4.pu, (fun z => n1j (by cases z; rfl)), on4, Nat.le_of_ble_eq_true rfl, (fun n hn => by
    simp only [List.mem_cons, List.not_mem_nil, or_false] at hn
    rcases hn with rfl | rfl
    · exact al
    · exact bl), h0, h1, h2, fun l i6 o5 f5 hi6 hd hl5 vd5 keys => g_name ?_⟩
  have on5 := f5.at on4 n1j
  have f05 := f04.trans f5
  have ka5 := keys a (by simp)
  have kb5 := keys b (by simp)
  have n16 : n1 ≠ i6 := fun z => by
    rw [z] at on4
    have := (List.getElem?_eq_some_iff.mp on4).1
    omega
  have i6o : o.length ≤ i6 := by have := f04.len; omega
  have n0 : atI [Sl.da (.str a), Sl.da (.str b)] 0 = some (.da (.str a)) := rfl
  have n1' : atI [Sl.da (.str a), Sl.da (.str b)] 1 = some (.da (.str b)) := rfl
  -- kinds 1 and 2: other values
  refine s_cut (fun ρ' o' => Fj j o o' ∧ o'[n1]? = some (.lst ([D.str a, .str b].map Sl.da)) ∧ ∃ (l : List (Key × D)) (u : Option Sl), o'[i6]? = some (.dic (dsl l)) ∧ VD l 1000 ∧ Keys l a first last ∧ Keys l b first last ∧
    ρ' = [some (.ow j), some (.da (.int kind)), some (.ow n1), some (.da (.int first)), some (.da (.int last)), some (.da (.lst [.lst (txs yes), .lst (txs no)])), some (.ow i6), u, none, none, none, none, none, none]) ?_ ?_
  · walk_at "e"
    refine o_inL rfl rfl (by simp [D.py, PyData.depth]) ⟨_, rfl, ite_b (fun h3 => ?_) fun h3 => s_next ⟨f05, on5, l, _, hd, vd5.mono (by decide), ka5, kb5, rfl⟩⟩
    walk_at "e"
    refine draw_in (by decide) (by decide) f5.pu fun r o6 r0 r1 f6 => e_int (o_eqI ⟨_, rfl, ite_dec (fun h4 => ?_) fun h4 => ?_⟩)
    · have f06 := f05.trans f6
      have on6 := f6.at on5 n1j
      have hd6 := f6.at hd (by omega)
      refine s_range2 ?_
      walk_at "e"
      refine ⟨first, last + 1, rfl, by omega, fun k ρ' o' => k ≤ 25 ∧ Fj j o o' ∧ o'[n1]? = some (.lst ([D.str a, .str b].map Sl.da)) ∧ ∃ (l : List (Key × D)) (u : Option Sl), o'[i6]? = some (.dic (dsl l)) ∧ l.length ≤ 1000 + 2 * k ∧ VD l (100 + 10 * k) ∧ Keys l a first last ∧ Keys l b first last ∧
        ρ' = [some (.ow j), some (.da (.int kind)), some (.ow n1), some (.da (.int first)), some (.da (.int last)), some (.da (.lst [.lst (txs yes), .lst (txs no)])), some (.ow i6), u, none, none, none, none, none, none], ⟨by omega, f06, on6, l, _, hd6, by omega, vd5.mono (by omega), ka5, kb5, rfl⟩, ?_, ?_⟩
      · rintro k ρ' o' hk ⟨_, f7, on7, l, u, hd7, ll, vd, ka, kb, rfl⟩
        have kk : (k : Int) ≤ last - first := by omega
        refine g_name ?_
        refine s_cut (fun ρ2 o2 => Fj j o o2 ∧ o2[n1]? = some (.lst ([D.str a, .str b].map Sl.da)) ∧ ∃ (l : List (Key × D)), o2[i6]? = some (.dic (dsl l)) ∧ l.length ≤ 1001 + 2 * k ∧ VD l (100 + 10 * k) ∧ Keys l a first last ∧ Keys l b first last ∧
          ρ2 = [some (.ow j), some (.da (.int kind)), some (.ow n1), some (.da (.int first)), some (.da (.int last)), some (.da (.lst [.lst (txs yes), .lst (txs no)])), some (.ow i6), some (.da (.int (first + k))), none, none, none, none, none, none]) ?_ ?_
        · have stay : WS B tNext { nx := fun ρ2 o2 => Fj j o o2 ∧ o2[n1]? = some (.lst ([D.str a, .str b].map Sl.da)) ∧ ∃ (l : List (Key × D)), o2[i6]? = some (.dic (dsl l)) ∧ l.length ≤ 1001 + 2 * k ∧ VD l (100 + 10 * k) ∧ Keys l a first last ∧ Keys l b first last ∧
              ρ2 = [some (.ow j), some (.da (.int kind)), some (.ow n1), some (.da (.int first)), some (.da (.int last)), some (.da (.lst [.lst (txs yes), .lst (txs no)])), some (.ow i6), some (.da (.int (first + k))), none, none, none, none, none, none], rt := Rt }
              [some (.ow j), some (.da (.int kind)), some (.ow n1), some (.da (.int first)), some (.da (.int last)), some (.da (.lst [.lst (txs yes), .lst (txs no)])), some (.ow i6), some (.da (.int (first + k))), none, none, none, none, none, none] o' := s_next ⟨f7, on7, l, hd7, by omega, vd, ka, kb, rfl⟩
          walk_at "e"
          refine ite_dec (fun h5 => ?_) fun h5 => stay.mono (fun _ _ q => q) (fun _ _ q => q) (fun _ _ q => q.elim) (fun _ _ q => q.elim)
          walk_at "e"
          refine ite_dec (fun h6 => ?_) fun h6 => stay.mono (fun _ _ q => q) (fun _ _ q => q) (fun _ _ q => q.elim) (fun _ _ q => q.elim)
          refine s_dput (tv := tC .non) ?_
          walk_at "e"
          refine o_ixL on7 n0 ?_
          walk_at "e"
          refine ⟨i6, dsl l, .inr (atM a (first + k)), rfl, rfl, hd7, size1000 (by rw [dsl_len]; omega), ?_⟩
          rw [putS_dsl]
          refine ⟨f7.set jl i6o, by rw [List.getElem?_set_ne (fun z => n16 z.symm)]; exact on7, putD l (.inr (atM a (first + k))) (.int 0), List.getElem?_set_self (List.getElem?_eq_some_iff.mp hd7).1, by have := putD_len l (.inr (atM a (first + k))) (.int 0); omega, vd.put (by omega) (by omega) _, fun t x y => some_put (ka t x y), fun t x y => some_put (kb t x y), rfl⟩
        · rintro ρ2 o2 ⟨f8, on8, l, hd8, ll, vd, ka, kb, rfl⟩
          obtain ⟨va0, hva⟩ := ka (first + k) (by omega) (by omega)
          have hv := vd _ _ hva
          refine s_dput (tv := tC .non) ?_
          refine e_op (e_op (e_var rfl (e_callA (a_cons (e_op (e_var rfl (e_int (o_ixL on8 n0 ?_))))))))
          walk_at "e"
          refine o_ixDO (k := .inr (atM a (first + k))) (d := .da (.int va0)) hd8 ?_ ?_
          · have e1 := look_get hva
            unfold getK dsl at *
            rw [List.find?_map]
            have e2 : ((fun kv : Key × Sl => decide (kv.1 = Sum.inr (atM a (first + k)))) ∘ fun p : Key × D => (p.1, Sl.da p.2)) = fun kv : Key × D => decide (kv.1 = Sum.inr (atM a (first + k))) := rfl
            rw [e2]
            obtain ⟨p, hp, hp2⟩ := Option.map_eq_some_iff.mp e1
            rw [hp]
            show some (Sl.da p.2) = _
            rw [hp2]
          walk_at "e"
          refine o_ixL on8 n1' ?_
          walk_at "e"
          refine ⟨i6, dsl l, .inr (atM b (first + k)), rfl, rfl, hd8, size1000 (by rw [dsl_len]; omega), ?_⟩
          rw [putS_dsl]
          refine ⟨by omega, f8.set jl i6o, by rw [List.getElem?_set_ne (fun z => n16 z.symm)]; exact on8, putD l (.inr (atM b (first + k))) (.int (va0 + 10)), _, List.getElem?_set_self (List.getElem?_eq_some_iff.mp hd8).1, by have := putD_len l (.inr (atM b (first + k))) (.int (va0 + 10)); omega, (vd.mono (by omega)).put (by omega) (by omega) _, fun t x y => some_put (ka t x y), fun t x y => some_put (kb t x y), rfl⟩
      · rintro ρ' o' ⟨kk, f7, on7, l, u, hd7, ll, vd, ka, kb, rfl⟩
        exact ⟨f7, on7, l, _, hd7, vd.mono (by omega), ka, kb, rfl⟩
    · exact s_next ⟨f05.trans f6, f6.at on5 n1j, l, _, f6.at hd (by omega), vd5.mono (by decide), ka5, kb5, rfl⟩
  rintro ρ6 o6 ⟨f6, on6, l, u, hd6, vd, ka, kb, rfl⟩
  clear keys ka5 kb5 vd5 hl5 hd
  refine s_frz 6 (j := i6) rfl (by omega) hd6 (.dic _) ?_
  have f7 := f6.set (u := OO.gone) jl i6o
  have on7 : (o6.set i6 .gone)[n1]? = some (.lst ([D.str a, .str b].map Sl.da)) := by rw [List.getElem?_set_ne (fun z => n16 z.symm)]; exact on6
  generalize o6.set i6 .gone = o7 at f7 on7 ⊢
  refine s_seq (s_asg (e_callA ?_))
  walk_at "e"
  refine ⟨j, kind, a, b, .ow n1, first, last, l, rfl, f7.pu, (fun z => n1j (by cases z; rfl)), k0, k5, al, bl, on7, h0, h1, h2, ka, kb, vd, fun low high mn i8 o8 f8 hi8 on8 fl fh m0 m1 hlo hz => g_name ?_⟩
  have on8n := f8.at on7 n1j
  have f08 := f7.trans f8
  have i8o := f7.len
  have n18 : n1 ≠ i8 := fun z => by
    rw [z] at on7
    have := (List.getElem?_eq_some_iff.mp on7).1
    omega
  have i8l := (List.getElem?_eq_some_iff.mp on8).1
  have n1l := (List.getElem?_eq_some_iff.mp on8n).1
  -- handed
  refine s_seq (s_asg (e_lstO ?_))
  refine a_cons (e_cb (a_cons (e_op (e_var rfl (e_int (o_ix at0 (a_nil (n_listO (ss := sls yes) rfl ?_))))))))
  refine a_cons (e_cb (a_cons (e_op (e_var rfl (e_int (o_ix at1 (a_nil (n_listO (ss := sls no) rfl (a_nil ⟨sizeBig (Nat.le_of_ble_eq_true rfl), g_name ?_⟩)))))))))
  have ol : o.length ≤ o8.length := f08.len
  have f09 := ((f08.add [OO.lst (sls yes)]).add [OO.lst (sls no)]).add [OO.lst [.ow o8.length, .ow (o8 ++ [OO.lst (sls yes)]).length]]
  have g1 : ∀ {i : Nat} {u : OO}, o8[i]? = some u → (((o8 ++ [OO.lst (sls yes)]) ++ [OO.lst (sls no)]) ++ [OO.lst [.ow o8.length, .ow (o8 ++ [OO.lst (sls yes)]).length]])[i]? = some u := fun {i u} e =>
    Fp.get ((((Fp.refl o8).add _).add _).add _) e
  have lx : (o8 ++ [OO.lst (sls yes)]).length = o8.length + 1 := by simp
  have lq : ((o8 ++ [OO.lst (sls yes)]) ++ [OO.lst (sls no)]).length = o8.length + 2 := by simp
  have gx : (((o8 ++ [OO.lst (sls yes)]) ++ [OO.lst (sls no)]) ++ [OO.lst [.ow o8.length, .ow (o8 ++ [OO.lst (sls yes)]).length]])[o8.length]? = some (.lst (sls yes)) := Fp.get (((Fp.refl _).add _).add _) get_new
  have gy : (((o8 ++ [OO.lst (sls yes)]) ++ [OO.lst (sls no)]) ++ [OO.lst [.ow o8.length, .ow (o8 ++ [OO.lst (sls yes)]).length]])[(o8 ++ [OO.lst (sls yes)]).length]? = some (.lst (sls no)) := Fp.get ((Fp.refl _).add _) get_new
  have gq : (((o8 ++ [OO.lst (sls yes)]) ++ [OO.lst (sls no)]) ++ [OO.lst [.ow o8.length, .ow (o8 ++ [OO.lst (sls yes)]).length]])[((o8 ++ [OO.lst (sls yes)]) ++ [OO.lst (sls no)]).length]? = some (.lst [.ow o8.length, .ow (o8 ++ [OO.lst (sls yes)]).length]) := get_new
  have l3 : (["m", "n", "o"] : List Str).length = 3 := rfl
  rw [l3] at y1 y2
  refine counted_tail (n1 := n1) (i8 := i8) (x := o8.length) (y := (o8 ++ [OO.lst (sls yes)]).length) (hq := ((o8 ++ [OO.lst (sls yes)]) ++ [OO.lst (sls no)]).length) (a := a) (b := b) (low := low) (high := high) (mn := mn) (yes := yes) (no := no) (l := l) ?_ f09.pu ?_ ?_ (g1 on8n) (g1 on8) gq gx gy rfl k0 k5 wa wb (atW ba a1 a9 (by omega) h2) (atW bb b1 b9 (by omega) h2) al bl h0 h1 h2 (by omega) (by omega) fl fh m0 m1 hlo hz ka kb fun o' f => h o' (f09.trans f)
  · rw [hB]
    exact f09.len
  · simp only [List.nodup_cons, List.mem_cons, List.not_mem_nil, or_false, not_or, List.nodup_nil, and_true, not_false_eq_true, lx, lq]
    omega
  · rw [lx, lq]
    omega
end K03
end AB

set_option Elab.async false
set_option linter.all false
set_option maxRecDepth 100000
set_option maxHeartbeats 4000000
set_option autoImplicit false
namespace AB
open PySem L2 PySem.Spec PyProof.Rows He
namespace K03
local macro_rules | `(tactic| walk_at "e") => `(tactic| repeat' (first
  | (with_reducible refine s_seq ?_) | (with_reducible refine s_if ?_) | (with_reducible refine s_drop ?_) | (with_reducible refine s_ret ?_) | (with_reducible refine s_next ?_) | (with_reducible refine s_asg ?_)
  | (with_reducible refine g_name ?_)
  | (with_reducible refine t_test ?_) | (with_reducible refine t_B ?_) | (with_reducible refine t_or ?_) | (with_reducible refine t_and ?_) | (with_reducible refine t_not ?_)
  | ((with_reducible apply e_var); rfl) | (with_reducible refine e_int ?_) | (with_reducible refine e_str ?_) | (with_reducible refine e_bl ?_) | (with_reducible refine e_non ?_)
  | (with_reducible refine e_raw ?_) | (with_reducible refine ite_tt ?_) | (with_reducible refine ite_ff ?_) | (with_reducible refine ite_ntt ?_) | (with_reducible refine ite_nff ?_) | (with_reducible refine n_isiS ?_) | (with_reducible refine n_isiL ?_) | (with_reducible refine n_isiT ?_)
  | (with_reducible refine e_op ?_) | (with_reducible refine e_un ?_) | (with_reducible refine e_cb ?_) | (with_reducible refine e_callA ?_) | (with_reducible refine e_andV ?_) | (with_reducible refine e_if ?_)
  | (with_reducible refine a_cons ?_) | (with_reducible refine a_nil ?_)
  | (with_reducible refine o_gt ?_) | (with_reducible refine o_lt ?_) | (with_reducible refine o_le ?_) | (with_reducible refine o_ge ?_) | (with_reducible refine o_add ?_) | (with_reducible refine o_sub ?_) | (with_reducible refine o_neg ?_)
  | (with_reducible refine e_tup ?_) | (with_reducible refine e_lst ?_) | (with_reducible refine exd0 ?_) | (with_reducible refine exd1 ?_) | (with_reducible refine exd2 ?_) | (with_reducible refine exd3 ?_) | (with_reducible refine exd4 ?_) | (with_reducible refine exd5 ?_) | (with_reducible refine exd6 ?_)
  | (with_reducible refine o_isNotI ?_) | (with_reducible refine o_isNotN ?_) | (with_reducible refine o_isNotS ?_) | (with_reducible refine o_isI ?_) | (with_reducible refine o_isN ?_) | (with_reducible refine o_isS ?_) | (with_reducible refine o_isT ?_)
  | (with_reducible refine t_yes ?_) | (with_reducible refine gw_name (by decide) ?_)
  | (with_reducible refine s_par ?_) | (with_reducible refine ex2 ?_) | (with_reducible refine o_eqI ?_) | (with_reducible refine o_neI ?_) | (with_reducible refine o_ixL (by assumption) (by assumption) ?_)
  | (with_reducible refine e_sl ?_) | (with_reducible refine l_none ?_) | (with_reducible refine l_some ?_)
  | (with_reducible refine n_list (by assumption) ?_)
  | (with_reducible refine cat_in2 (by first | assumption | omega) (by omega) (by omega) ?_) | (with_reducible refine s_par3 ?_) | (with_reducible refine ex3 ?_)
  | (with_reducible refine cat_in (by first | assumption | omega) (by omega) (by omega) ?_)
  | (with_reducible refine ite_dec (fun h => absurd h (by decide)) (fun _ => ?_)) | (with_reducible refine ite_dec (fun _ => ?_) (fun h => absurd (by decide) h))
  | (with_reducible refine Exists.intro _ (And.intro rfl ?_))))
local macro_rules | `(tactic| walk_at "st") => `(tactic| simp only [List.map_cons, List.map_nil, List.length_cons, List.length_nil, Nat.reduceAdd, Nat.reduceSub, List.replicate, List.cons_append, List.nil_append])
variable {K : PySem.W.Frag} {B : Base} {W : WX} {ss : List Sl} {o : O} {Rt : Sl → O → Prop} {Xt : Addr → List (Str × D) → O → Prop}
/-! ### the script, a raw value -/
section
variable {ρ : R} {P : Sl → O → Prop} {a : Addr} {ns : List Int}
theorem ex_of {F H : Hp} {θ : List Addr} {σ : L2.St} (hB : B.θ = []) (k : Ok B F H θ σ ρ o) : Ex B.H H := fun c w e => k.tr.kp c w e (by rw [hB]; simp)
theorem SqL.exx {H H' : Hp} {xs : List V} (h : SqL K H a xs) (e : Ex H H') : SqL K H' a xs := by
  rcases h with h | h
  · left
    rcases h with h | ⟨ob, h⟩
    · exact .inl (e _ _ h)
    · exact .inr ⟨ob, e _ _ h⟩
  · exact .inr h
theorem raw_eq {F : Hp} {v w : V} (h : Rep F v (.raw w)) : v = w := by
  cases h
  rfl
theorem n_lenR (hB : B.θ = []) (hS : SqL K B.H a (ns.map V.int)) (p : P (.da (.int ns.length)) o) : AN B (rLenA K) [.da (.raw (.ref a))] o P := fun F H θ σ ρ vs k r Q q => by
  cases r with
  | cons r1 r2 =>
    cases r2
    have e := raw_eq r1
    subst e
    refine .inl ⟨_, ns.length, rfl, .inl ⟨_, SqL.exx hS (ex_of hB k), by rw [List.length_map]⟩, q _ _ F H θ o (Tw.refl F H θ) k (RepS.dat (Rep.int _)) p⟩
theorem o_ixR (hB : B.θ = []) (hS : SqL K B.H a (ns.map V.int)) {i v : Int} (e : atI ns i = some v) (p : P (.da (.int v)) o) : A2 B (rIxA K) (.da (.raw (.ref a))) (.da (.int i)) o P := A2.or1 (A2.or1 (
  A2.of (z := .da (.int v)) (fun F H θ σ ρ x u k r1 r2 Q q => by
    have e1 := raw_eq r1
    have e2 := rep_int r2
    subst e1 e2
    obtain ⟨j, e3, e4⟩ := atI_eq e
    exact ⟨a, _, i, .int v, rfl, rfl, SqL.exx hS (ex_of hB k), atI_of (j := j) (by rw [List.length_map]; exact e3) (by rw [List.getElem?_map, e4]; rfl), q _ (Rep.int _)⟩) p))
theorem sl_R (hB : B.θ = []) (hS : SqL K B.H a []) {lo hi : Option Int} (p : P (.da (.lst [])) o) : A3 B (rSlA K) (.da (.raw (.ref a))) lo hi o P := fun F H θ σ ρ v k r Q q => by
  have e1 := raw_eq r
  subst e1
  refine .inl ⟨a, [], rfl, SqL.exx hS (ex_of hB k), fun l hn => ?_⟩
  have e : cutV ([] : List V) lo hi = [] := by simp [cutV]
  rw [e]
  obtain ⟨t2, k2⟩ := k.put (u := .lst []) hn
  exact q _ _ _ _ _ _ t2.w k2 (RepS.dat (Rep.lst upd_same .nil)) p
end
theorem w__law_purse (hB : B.θ = []) {a : Addr} {ns : List Int} (hS : SqL K B.H a (ns.map V.int)) (hl : ns.length ≤ 1000) : WS B (r__law_purse K W) { nx := fun _ _ => False, rt := fun s o' => ∃ (j : Nat) (p q r : Int), s = .ow j ∧ o'[j]? = some (.lst [.da (.int p), .da (.int q), .da (.int r)]) } [some (.da (.raw (.ref a))), some (.da (.int 0)), none, none, none] o := by
  unfold r__law_purse
  have rest : ∀ cell : Int, WS B (tSeq (tAsg (tOp rAddA (tOp rMulA (tC (.int 2)) (tCB rAbsI (tCons (tVar 2) tNil))) (tIf (tTest (tOp rLtA (tVar 2) (tC (.int 0)))) (tC (.int 1)) (tC (.int 0)))) (gName 3))
      (tRet (tLst (tCons (tIf (tTest (tOp rGeA (tVar 3) (tOp rPowA (tC (.int 10)) (tC (.int 18))))) (tVar 3) (tC (.int 0))) (tCons (tOp rModA (tCB rIntI (tCons (tOp rAddA (tOp rAddA (tVar 3) (tOp rMulA (tVar 1) (tC (.int 104729)))) (tC (.int 12345))) tNil)) (tC (.int 2147483629))) (tCons (tVar 1) tNil))))))
      { nx := fun _ _ => False, rt := fun s o' => ∃ (j : Nat) (p q r : Int), s = .ow j ∧ o'[j]? = some (.lst [.da (.int p), .da (.int q), .da (.int r)]) } [some (.da (.raw (.ref a))), some (.da (.int 0)), some (.da (.int cell)), none, none] o := by
    intro cell
    have fin : ∀ size : Int, WS B (tRet (tLst (tCons (tIf (tTest (tOp rGeA (tVar 3) (tOp rPowA (tC (.int 10)) (tC (.int 18))))) (tVar 3) (tC (.int 0))) (tCons (tOp rModA (tCB rIntI (tCons (tOp rAddA (tOp rAddA (tVar 3) (tOp rMulA (tVar 1) (tC (.int 104729)))) (tC (.int 12345))) tNil)) (tC (.int 2147483629))) (tCons (tVar 1) tNil)))))
        { nx := fun _ _ => False, rt := fun s o' => ∃ (j : Nat) (p q r : Int), s = .ow j ∧ o'[j]? = some (.lst [.da (.int p), .da (.int q), .da (.int r)]) } [some (.da (.raw (.ref a))), some (.da (.int 0)), some (.da (.int cell)), some (.da (.int size)), none] o := by
      intro size
      refine s_ret (e_lstO ?_)
      have two : ∀ p : Int, AA B (tCons (tOp rModA (tCB rIntI (tCons (tOp rAddA (tOp rAddA (tVar 3) (tOp rMulA (tVar 1) (tC (.int 104729)))) (tC (.int 12345))) tNil)) (tC (.int 2147483629))) (tCons (tVar 1) tNil)) [some (.da (.raw (.ref a))), some (.da (.int 0)), some (.da (.int cell)), some (.da (.int size)), none] o
          fun xs o1 => (Sl.da (.int p) :: xs).length ≤ sizeLine ∧ ∃ (j : Nat) (p' q r : Int), Sl.ow o1.length = .ow j ∧ (o1 ++ [OO.lst (.da (.int p) :: xs)])[j]? = some (.lst [.da (.int p'), .da (.int q), .da (.int r)]) := by
        intro p
        walk_at "e"
        refine o_mul (.inl ⟨by decide, by decide⟩) ?_
        walk_at "e"
        refine n_int ?_
        walk_at "e"
        refine o_mod (by decide) ?_
        walk_at "e"
        exact ⟨sizeBig (Nat.le_of_ble_eq_true rfl), _, _, _, _, rfl, get_new⟩
      refine a_cons (e_if ?_)
      walk_at "e"
      refine o_pow ⟨by decide, by decide, by decide⟩ ?_
      walk_at "e"
      refine ite_dec (fun h1 => ?_) fun h1 => ?_
      · exact e_var rfl (two _)
      · exact e_int (two _)
    refine s_seq (s_asg (e_op (e_op (e_int (e_cb (a_cons (e_var rfl (a_nil (n_abs ?_)))))))))
    refine o_mul (.inl ⟨by decide, by decide⟩) ?_
    refine e_if ?_
    walk_at "e"
    refine ite_dec (fun h1 => ?_) fun h1 => ?_
    · exact e_int (o_add (g_name (fin _)))
    · exact e_int (o_add (g_name (fin _)))
  refine s_seq (s_asg (e_if (t_test (e_op (e_var rfl (e_cb (a_cons (e_var rfl (a_nil (n_lenR hB hS ?_))))))))))
  walk_at "e"
  refine ite_dec (fun h1 => ?_) fun h1 => ?_
  · cases ns with
    | nil => exact absurd h1 (by decide)
    | cons n r =>
      refine e_cb (a_cons (e_op (e_var rfl (e_var rfl (o_ixR hB hS (v := n) at0 (a_nil (n_int (g_name ?_))))))))
      exact rest n
  · cases ns with
    | cons n r => exact absurd (show (0 : Int) < ((n :: r).length : Int) by simp only [List.length_cons]; omega) h1
    | nil =>
      refine e_op (e_int (e_cb (a_cons (e_lc ?_))))
      refine e_sl (e_var rfl (l_none (l_some (e_int ⟨_, rfl, sl_R hB hS ?_⟩))))
      refine ⟨[], rfl, fun i acc o' => o' = o ∧ acc = [], ⟨rfl, rfl⟩, (fun i acc o' q => by rw [q.2]; exact Nat.zero_le _), (fun i d acc o' hd => by simp at hd), ?_⟩
      rintro acc o' ⟨rfl, rfl⟩
      refine a_nil (n_sum (ns := []) rfl (o_mul (.inl ⟨by decide, by decide⟩) (g_name ?_)))
      exact rest _
theorem sp_purse {vs : List V} {H : Hp} {Q : VK} {E : XK} (h : sp__law_purse K vs H Q E) : r__law_purse K W { nx := fun _ H' => Q .non H', rt := Q } (L2.start ["script", "at", "cell", "size", "one"] vs) H := by
  obtain ⟨a, ns, rfl, hS, hl, q⟩ := h
  have w := w__law_purse (W := W) (B := ⟨fun _ => none, H, []⟩) (o := []) rfl hS hl
  refine w (fun _ => none) H [] _ ⟨Tr.refl _ _ _, (fun a w z => by cases z), rfl, List.nodup_nil, (fun j a u z => by simp at z), (fun j a u z => by simp at z), ⟨rfl, fun i s e => ?_⟩⟩ _ ⟨fun F' H' θ' σ ρ o t k p => p.elim, fun F' H' θ' σ ρ o v s t k r p => ?_, fun F' H' θ' σ ρ o t k p => p.elim, fun F' H' θ' σ ρ o t k p => p.elim⟩
  · match i, e with
    | 0, e => cases e; exact ⟨_, rfl, RepS.dat (Rep.raw _)⟩
    | 1, e => cases e; exact ⟨_, rfl, RepS.dat (Rep.int _)⟩
    | 2, e => cases e
    | 3, e => cases e
    | 4, e => cases e
    | n + 5, e => simp at e
  · obtain ⟨j, x, y, z, rfl, ho⟩ := p
    obtain ⟨l, rfl, hl⟩ := r
    obtain ⟨l', hl', xs, h1, h2⟩ := k.own ho
    rw [hl] at hl'
    cases hl'
    have e : xs = [.int x, .int y, .int z] := by
      cases h2 with
      | cons r1 h2 =>
        cases h2 with
        | cons r2 h2 =>
          cases h2 with
          | cons r3 h2 =>
            cases h2
            rw [rep_int r1, rep_int r2, rep_int r3]
    subst e
    have hn : H l = none := by
      rcases k.tr.nt l (List.mem_of_getElem? hl) with q | q
      · simp at q
      · exact q
    have e2 : upd (del H' l) l (.lst [.int x, .int y, .int z]) = H' := by
      funext c
      by_cases hc : c = l
      · rw [hc, upd_same, h1]
      · rw [upd_ne hc, del_ne hc]
    have := q x y z (del H' l) l (fun c w e => by
      have hc : c ≠ l := fun z => by rw [z, hn] at e; cases e
      rw [del_ne hc]
      exact k.tr.kp c w e (by simp)) del_same
    rw [e2] at this
    exact this
def spLaw (K : PySem.W.Frag) : Sp := fun vs H Q _ => ∃ (a : Addr) (ns : List Int), vs = [.ref a] ∧ ns.length ≤ 1000 ∧ SqL K H a (ns.map V.int) ∧ ∀ H', Q (.bl true) H'
def lawT (K : PySem.W.Frag) (W : WX) : TS :=
  (tSeq (tFor (iRng1 (tCons (tC (.int 2)) tNil)) (gName 2) (tSeq (tFor (iRng1 (tCons (tC (.int 6)) tNil)) (gName 3) (tIfS (tNot (tB (tCallS (SpC (c__law_counted K)) (WE W) (tCons (tVar 1) (tCons (tVar 3) tNil))))) (tRet (tC (.bl false))) tNext))
  (tIfS (tOr (tNot (tB (tCallS (SpC (c__law_lined K)) (WE W) (tCons (tVar 1) tNil)))) (tNot (tB (tCallS (SpC (c__law_sent K)) (WE W) (tCons (tVar 1) tNil))))) (tRet (tC (.bl false))) tNext)))
  (tSeq (tFor (iRng1 (tCons (tC (.int 9)) tNil)) (gName 3) (tIfS (tNot (tB (tCallS (SpC (c__law_refused K)) (WE W) (tCons (tVar 1) (tCons (tVar 3) tNil))))) (tRet (tC (.bl false))) tNext))
  (tRet (tC (.bl true)))))
theorem w_lawT {j : Nat} (pu : Pu o j) : WS B (lawT K W) { nx := fun _ _ => False, rt := fun s _ => s = .da (.bl true) } [none, some (.ow j), none, none] o := by
  unfold lawT
  refine s_seq (s_range1 ?_)
  walk_at "e"
  refine ⟨by decide, by decide, fun i ρ' o' => Pu o' j ∧ ∃ u v, ρ' = [none, some (.ow j), u, v], ⟨pu, _, _, rfl⟩, ?_, ?_⟩
  · rintro i ρ' o' hi ⟨pu, u, v, rfl⟩
    refine g_name (s_seq (s_range1 ?_))
    walk_at "e"
    refine ⟨by decide, by decide, fun k ρ' o' => Pu o' j ∧ ∃ u v, ρ' = [none, some (.ow j), u, v], ⟨pu, _, _, rfl⟩, ?_, ?_⟩
    · rintro k ρ' o' hk ⟨pu, u, v, rfl⟩
      have hk' : k < 6 := hk
      walk_at "e"
      refine ⟨j, k, rfl, pu, by omega, by omega, fun o2 f => ?_⟩
      walk_at "e"
      exact ⟨f.pu, _, _, rfl⟩
    · rintro ρ' o' ⟨pu, u, v, rfl⟩
      walk_at "e"
      refine ⟨j, rfl, pu, fun o2 f => ?_⟩
      walk_at "e"
      refine ⟨j, rfl, f.pu, fun o3 f2 => ?_⟩
      walk_at "e"
      exact ⟨f2.pu, _, _, rfl⟩
  · rintro ρ' o' ⟨pu, u, v, rfl⟩
    refine s_seq (s_range1 ?_)
    walk_at "e"
    refine ⟨by decide, by decide, fun k ρ' o' => Pu o' j ∧ ∃ u v, ρ' = [none, some (.ow j), u, v], ⟨pu, _, _, rfl⟩, ?_, ?_⟩
    · rintro k ρ' o' hk ⟨pu, u, v, rfl⟩
      have hk' : k < 9 := hk
      walk_at "e"
      refine ⟨j, k, rfl, pu, by omega, by omega, fun o2 f => ?_⟩
      walk_at "e"
      exact ⟨f.pu, _, _, rfl⟩
    · rintro ρ' o' ⟨pu, u, v, rfl⟩
      walk_at "e"
      rfl
theorem sp_law {vs : List V} {H : Hp} {Q : VK} {E : XK} (h : spLaw K vs H Q E) : r_law K W { nx := fun _ H' => Q .non H', rt := Q } (L2.start ["script", "purse", "turn", "kind"] vs) H := by
  obtain ⟨a, ns, rfl, hl, hS, q⟩ := h
  refine ⟨_, rfl, a, ns, rfl, hS, hl, fun x y z H' l ex hn => ?_⟩
  have pu : Pu [OO.lst [.da (.int x), .da (.int y), .da (.int z)]] 0 := ⟨x, y, z, rfl⟩
  have w := w_lawT (K := K) (W := W) (B := ⟨fun _ => none, upd H' l (.lst [.int x, .int y, .int z]), [l]⟩) pu
  refine w (fun _ => none) _ [l] _ ⟨Tr.refl _ _ _, (fun a w z => by cases z), rfl, by simp, (fun j a u _ _ _ => rfl), (fun j c u e1 e2 => ?_), ⟨rfl, fun i s e => ?_⟩⟩ _ ⟨fun F' H' θ' σ ρ o t k p => p.elim, fun F' H' θ' σ ρ o v s t k r p => ?_, fun F' H' θ' σ ρ o t k p => p.elim, fun F' H' θ' σ ρ o t k p => p.elim⟩
  · match j, e1, e2 with
    | 0, e1, e2 =>
      cases e1
      cases e2
      exact ⟨_, upd_same, .cons (RepS.dat (Rep.int _)) (.cons (RepS.dat (Rep.int _)) (.cons (RepS.dat (Rep.int _)) .nil))⟩
    | n + 1, e1, e2 => simp at e1
  · match i, e with
    | 0, e => cases e
    | 1, e => cases e; exact ⟨_, rfl, l, rfl, rfl⟩
    | 2, e => cases e
    | 3, e => cases e
    | n + 4, e => simp at e
  · subst p
    rw [rep_bl r]
    exact q H'
end K03
end AB

set_option Elab.async false
set_option linter.all false
set_option maxRecDepth 100000
set_option maxHeartbeats 4000000
set_option autoImplicit false
namespace AB
open PySem L2 PySem.Spec PyProof.Rows He
namespace K03
section
variable {P : Program} {w : World} {K : PySem.W.Frag} {mg : Str → Option Value} {base : Heap}
theorem d_check_most (T : Tx K mg)  (I_TooMany : InitOk P w K mg base "TooMany" ["what"]) {f : Addr} {cdv : Value} {A : Around} {outer : List Env} {s : Shared} {H : Hp} {E : XK} (hr : Room 2 (A.deeper (envOfC "check_most" (defScope s_check_most) s.heap.objs.size f cdv))) :
    PSs (cxOf (L2.CX P w) P w K mg base ["what", "many", "most"] "check_most" (defScope s_check_most) f cdv A outer s H E) (defBody s_check_most) (r_check_most K (fun cls d _ H => E cls d H)) :=
  have tk0 := takes_of (X := cxOf (L2.CX P w) P w K mg base ["what", "many", "most"] "check_most" (defScope s_check_most) f cdv A outer s H E) (E := E) rfl rfl rfl rfl
  (pss_one (ps_if (pt_cmpR op_gtA (pv 1) (pv 2) (nomark _)) (pss_one (ps_raiseX T.x_TooMany I_TooMany hr tk0 (pa_cons (pv 0) pa_nil))) pss_nil))
theorem d_check_numbers (T : Tx K mg)  (I_TooMany : InitOk P w K mg base "TooMany" ["what"]) {f : Addr} {cdv : Value} {A : Around} {outer : List Env} {s : Shared} {H : Hp} {E : XK} (hr : Room 2 (A.deeper (envOfC "check_numbers" (defScope s_check_numbers) s.heap.objs.size f cdv))) :
    PSs (cxOf (L2.CX P w) P w K mg base ["numbers", "most", "number"] "check_numbers" (defScope s_check_numbers) f cdv A outer s H E) (defBody s_check_numbers) (r_check_numbers K (fun cls d _ H => E cls d H)) :=
  have tk0 := takes_of (X := cxOf (L2.CX P w) P w K mg base ["numbers", "most", "number"] "check_numbers" (defScope s_check_numbers) f cdv A outer s H E) (E := E) rfl rfl rfl rfl
  (pss_one (ps_for (passes_of rfl) rfl (pi_sq (pv 0)) (pg_name (i := 2) sc_check_numbers.nd rfl (.inl rfl)) (pss_one (ps_if (PW.pt (pw_or (pt_cmpR op_gtA (pv 2) (pv 1) (nomark _)) (pw_or1 (pt_cmpR op_ltA (pv 2) (pe_un un_negA (pv 1)) (nomark _))))) (pss_one (ps_raiseX T.x_TooMany I_TooMany hr tk0 (pa_cons pe_str pa_nil))) pss_nil))))
theorem d_is_word (T : Tx K mg)   {f : Addr} {cdv : Value} {A : Around} {outer : List Env} {s : Shared} {H : Hp} {E : XK} (hr : Room 0 (A.deeper (envOfC "is_word" (defScope s_is_word) s.heap.objs.size f cdv))) :
    PSs (cxOf (L2.CX P w) P w K mg base ["word", "sign"] "is_word" (defScope s_is_word) f cdv A outer s H E) (defBody s_is_word) (r_is_word K (fun cls d _ H => E cls d H)) :=
  have tk0 := takes_of (X := cxOf (L2.CX P w) P w K mg base ["word", "sign"] "is_word" (defScope s_is_word) f cdv A outer s H E) (E := E) rfl rfl rfl rfl
  (pss_cons (ps_if (PW.pt (pw_or (pt_not (pt_val (pe_callB call_isi (by rfl) T.b_isinstance (by decide +kernel) (pa_cons (pv 0) (pa_cons (pe_bltn (by rfl) T.b_str (by decide +kernel) rfl) pa_nil))))) (pw_or (pt_cmpR op_ltA (pe_callB cr_lenA (by rfl) T.b_len (by decide +kernel) (pa_cons (pv 0) pa_nil)) pe_int (nomark _)) (pw_or1 (pt_cmpR op_gtA (pe_callB cr_lenA (by rfl) T.b_len (by decide +kernel) (pa_cons (pv 0) pa_nil)) (pe_gc (by rfl) T.n_WORD_LENGTH) (nomark _)))))) (pss_one (ps_ret pe_bl)) pss_nil)
  (pss_cons (ps_if (PW.pt (pw_or (pt_cmpR (op_notInA (hr).units) (pe_ix (ix_A (hr).units) (pv 0) pe_int (fun _ _ => rfl)) (pe_gc (by rfl) T.n_FIRSTS) (by rfl)) (pw_or1 (pt_cmpR (op_inA (hr).units) (pv 0) (pe_lst (pa_cons pe_str (pa_cons pe_str pa_nil))) (by rfl))))) (pss_one (ps_ret pe_bl)) pss_nil)
  (pss_cons (ps_for (passes_of rfl) rfl (pi_sq (pv 0)) (pg_name (i := 1) sc_is_word.nd rfl (.inl rfl)) (pss_one (ps_if (pt_cmpR (op_notInA (hr).units) (pv 1) (pe_gc (by rfl) T.n_REST) (by rfl)) (pss_one (ps_ret pe_bl)) pss_nil)))
  (pss_one (ps_ret pe_bl)))))
theorem d_check_pattern (T : Tx K mg) (C_at_moment : Cal P w K mg base 1 "at_moment" ["name", "moment"] (c_at_moment K)) (C_check_most : Cal P w K mg base 3 "check_most" ["what", "many", "most"] (c_check_most K)) (C_check_numbers : Cal P w K mg base 3 "check_numbers" ["numbers", "most"] (c_check_numbers K)) (C_is_word : Cal P w K mg base 1 "is_word" ["word"] (c_is_word K)) (I_BadPattern : InitOk P w K mg base "BadPattern" ["what"]) {f : Addr} {cdv : Value} {A : Around} {outer : List Env} {s : Shared} {H : Hp} {E : XK} (hr : Room 3 (A.deeper (envOfC "check_pattern" (defScope s_check_pattern) s.heap.objs.size f cdv))) :
    PSs (cxOf (L2.CX P w) P w K mg base ["names", "first", "last", "numbers", "wrong", "name", "number"] "check_pattern" (defScope s_check_pattern) f cdv A outer s H E) (defBody s_check_pattern) (r_check_pattern K (fun cls d _ H => E cls d H)) :=
  have tk0 := takes_of (X := cxOf (L2.CX P w) P w K mg base ["names", "first", "last", "numbers", "wrong", "name", "number"] "check_pattern" (defScope s_check_pattern) f cdv A outer s H E) (E := E) rfl rfl rfl rfl
  (pss_cons (ps_expr (pe_cal C_check_most hr (by decide) (by rfl) tk0 (pa_cons pe_str (pa_cons (pv 2) (pa_cons (pe_gc (by rfl) T.n_MOMENTS) pa_nil)))))
  (pss_cons (ps_expr (pe_cal C_check_numbers hr (by decide) (by rfl) tk0 (pa_cons (pe_lc (own := [("number", 6)]) (g := (gName 6)) (tt := (tTest (tOp rIsNotA (tVar 6) (tC .non)))) (te := (tVar 6)) (by rfl) sc_check_pattern.nd (pi_sq (pv 3)) (blkOk_by (N := ["names", "first", "last", "numbers", "wrong", "name", "number"]) (sc := defScope s_check_pattern) (by decide +kernel)) (fun _ _ _ _ _ => (pg_name (i := 6) sc_check_pattern.nd rfl (.inl rfl))) (fun _ _ _ _ _ => (pts_one (pt_cmpR op_isNotA (pv 6) pe_non (nomark _)))) (fun _ _ _ _ _ => (pv 6))) (pa_cons (pe_gc (by rfl) T.n_NUMBERS) pa_nil))))
  (pss_cons (ps_if (PW.pt (pw_or (pt_cmpR op_ltA (pv 1) pe_int (nomark _)) (pw_or1 (pt_cmpR op_gtA (pv 1) (pv 2) (nomark _))))) (pss_one (ps_raiseX T.x_BadPattern I_BadPattern hr tk0 (pa_cons pe_str pa_nil))) pss_nil)
  (pss_cons (ps_for (passes_of rfl) rfl (pi_sq (pv 0)) (pg_name (i := 5) sc_check_pattern.nd rfl (.inl rfl)) (pss_one (ps_if (PW.pt (pw_or (pt_not (pt_val (pe_cal C_is_word hr (by decide) (by rfl) tk0 (pa_cons (pv 5) pa_nil)))) (pw_or1 (pt_not (pt_val (pe_cal C_is_word hr (by decide) (by rfl) tk0 (pa_cons (pe_cal C_at_moment hr (by decide) (by rfl) tk0 (pa_cons (pv 5) (pa_cons (pv 2) pa_nil))) pa_nil))))))) (pss_one (ps_raiseX T.x_BadPattern I_BadPattern hr tk0 (pa_cons pe_str pa_nil))) pss_nil)))
  (pss_one (ps_if (pt_val (pv 4)) (pss_one (ps_raiseX T.x_BadPattern I_BadPattern hr tk0 (pa_cons pe_str pa_nil))) pss_nil))))))
theorem d_at_moment (T : Tx K mg)   {f : Addr} {cdv : Value} {A : Around} {outer : List Env} {s : Shared} {H : Hp} {E : XK} (hr : Room 0 (A.deeper (envOfC "at_moment" (defScope s_at_moment) s.heap.objs.size f cdv))) :
    PSs (cxOf (L2.CX P w) P w K mg base ["name", "moment"] "at_moment" (defScope s_at_moment) f cdv A outer s H E) (defBody s_at_moment) (r_at_moment K (fun cls d _ H => E cls d H)) :=
  have tk0 := takes_of (X := cxOf (L2.CX P w) P w K mg base ["name", "moment"] "at_moment" (defScope s_at_moment) f cdv A outer s H E) (E := E) rfl rfl rfl rfl
  (pss_one (ps_ret (pe_op op_addA (pe_op op_addA (pv 0) pe_str) (pe_callTy cr_strI (by rfl) T.b_str (by decide +kernel) (pa_cons (pv 1) pa_nil)))))
theorem d_below_zero (T : Tx K mg)   {f : Addr} {cdv : Value} {A : Around} {outer : List Env} {s : Shared} {H : Hp} {E : XK} (hr : Room 0 (A.deeper (envOfC "below_zero" (defScope s_below_zero) s.heap.objs.size f cdv))) :
    PSs (cxOf (L2.CX P w) P w K mg base ["number"] "below_zero" (defScope s_below_zero) f cdv A outer s H E) (defBody s_below_zero) (r_below_zero K (fun cls d _ H => E cls d H)) :=
  have tk0 := takes_of (X := cxOf (L2.CX P w) P w K mg base ["number"] "below_zero" (defScope s_below_zero) f cdv A outer s H E) (E := E) rfl rfl rfl rfl
  (pss_one (ps_ret (pe_and (pe_cmpR op_isNotA (pv 0) pe_non (nomark _)) (pe_one (pe_cmpR op_ltA (pv 0) pe_int (nomark _))))))
theorem d_crossed (T : Tx K mg)   {f : Addr} {cdv : Value} {A : Around} {outer : List Env} {s : Shared} {H : Hp} {E : XK} (hr : Room 0 (A.deeper (envOfC "crossed" (defScope s_crossed) s.heap.objs.size f cdv))) :
    PSs (cxOf (L2.CX P w) P w K mg base ["low", "high"] "crossed" (defScope s_crossed) f cdv A outer s H E) (defBody s_crossed) (r_crossed K (fun cls d _ H => E cls d H)) :=
  have tk0 := takes_of (X := cxOf (L2.CX P w) P w K mg base ["low", "high"] "crossed" (defScope s_crossed) f cdv A outer s H E) (E := E) rfl rfl rfl rfl
  (pss_one (ps_ret (pe_and (pe_cmpR op_isNotA (pv 0) pe_non (nomark _)) (pe_and (pe_cmpR op_isNotA (pv 1) pe_non (nomark _)) (pe_one (pe_cmpR op_gtA (pv 0) (pv 1) (nomark _)))))))
theorem d_line_rows (T : Tx K mg) (C_at_moment : Cal P w K mg base 1 "at_moment" ["name", "moment"] (c_at_moment K)) (C_below_zero : Cal P w K mg base 1 "below_zero" ["number"] (c_below_zero K)) (C_check_pattern : Cal P w K mg base 4 "check_pattern" ["names", "first", "last", "numbers", "wrong"] (c_check_pattern K)) (C_crossed : Cal P w K mg base 1 "crossed" ["low", "high"] (c_crossed K))  {f : Addr} {cdv : Value} {A : Around} {outer : List Env} {s : Shared} {H : Hp} {E : XK} (hr : Room 4 (A.deeper (envOfC "line_rows" (defScope s_line_rows) s.heap.objs.size f cdv))) :
    PSs (cxOf (L2.CX P w) P w K mg base ["name", "helper", "first", "last", "least", "most", "slow", "fast", "decisions", "rules", "moment"] "line_rows" (defScope s_line_rows) f cdv A outer s H E) (defBody s_line_rows) (r_line_rows K (fun cls d _ H => E cls d H)) :=
  have tk0 := takes_of (X := cxOf (L2.CX P w) P w K mg base ["name", "helper", "first", "last", "least", "most", "slow", "fast", "decisions", "rules", "moment"] "line_rows" (defScope s_line_rows) f cdv A outer s H E) (E := E) rfl rfl rfl rfl
  (pss_cons (ps_expr (pe_cal C_check_pattern hr (by decide) (by rfl) tk0 (pa_cons (pe_lst (pa_cons (pv 0) pa_nil)) (pa_cons (pv 2) (pa_cons (pv 3) (pa_cons (pe_lst (pa_cons (pv 4) (pa_cons (pv 5) (pa_cons (pv 6) (pa_cons (pv 7) pa_nil))))) (pa_cons (pe_or (pe_cal C_below_zero hr (by decide) (by rfl) tk0 (pa_cons (pv 7) pa_nil)) (pe_one (pe_cal C_crossed hr (by decide) (by rfl) tk0 (pa_cons (pv 6) (pa_cons (pv 7) pa_nil))))) pa_nil)))))))
  (pss_cons (ps_set (i := 8) sc_line_rows.nd rfl (.inl rfl) (pe_lst pa_nil))
  (pss_cons (ps_set (i := 9) sc_line_rows.nd rfl (.inl rfl) (pe_lst pa_nil))
  (pss_cons (ps_for (passes_of rfl) rfl (pi_range2 (by rfl) T.b_range (pa_cons (pv 2) (pa_cons (pe_op op_addA (pv 3) pe_int) pa_nil))) (pg_name (i := 10) sc_line_rows.nd rfl (.inl rfl)) (pss_cons (ps_expr (pe_bm PySem.F.plainAttrs_list PySem.F.slot_list_append PySem.F.type_list_append mt_append (pv 8) (pa_cons (pe_tup (pa_cons (pe_cal C_at_moment hr (by decide) (by rfl) tk0 (pa_cons (pv 0) (pa_cons (pv 10) pa_nil))) (pa_cons (pv 1) (pa_cons (pv 10) (pa_cons (pv 4) (pa_cons (pv 5) pa_nil)))))) pa_nil)))
  (pss_cons (ps_if (PW.pt (pw_and (pt_cmpR op_gtA (pv 10) (pv 2) (nomark _)) (pw_and1 (pt_cmpR op_isNotA (pv 6) pe_non (nomark _))))) (pss_one (ps_expr (pe_bm PySem.F.plainAttrs_list PySem.F.slot_list_append PySem.F.type_list_append mt_append (pv 9) (pa_cons (pe_tup (pa_cons (pe_cal C_at_moment hr (by decide) (by rfl) tk0 (pa_cons (pv 0) (pa_cons (pe_op op_subA (pv 10) pe_int) pa_nil))) (pa_cons (pe_cal C_at_moment hr (by decide) (by rfl) tk0 (pa_cons (pv 0) (pa_cons (pv 10) pa_nil))) (pa_cons (pe_un un_negA (pv 6)) (pa_cons (pe_lst pa_nil) (pa_cons (pe_lst pa_nil) pa_nil)))))) pa_nil)))) pss_nil)
  (pss_one (ps_if (PW.pt (pw_and (pt_cmpR op_gtA (pv 10) (pv 2) (nomark _)) (pw_and1 (pt_cmpR op_isNotA (pv 7) pe_non (nomark _))))) (pss_one (ps_expr (pe_bm PySem.F.plainAttrs_list PySem.F.slot_list_append PySem.F.type_list_append mt_append (pv 9) (pa_cons (pe_tup (pa_cons (pe_cal C_at_moment hr (by decide) (by rfl) tk0 (pa_cons (pv 0) (pa_cons (pv 10) pa_nil))) (pa_cons (pe_cal C_at_moment hr (by decide) (by rfl) tk0 (pa_cons (pv 0) (pa_cons (pe_op op_subA (pv 10) pe_int) pa_nil))) (pa_cons (pv 7) (pa_cons (pe_lst pa_nil) (pa_cons (pe_lst pa_nil) pa_nil)))))) pa_nil)))) pss_nil)))))
  (pss_one (ps_ret (pe_tup (pa_cons (pv 8) (pa_cons (pv 9) pa_nil)))))))))
theorem d_after_rows (T : Tx K mg) (C_at_moment : Cal P w K mg base 1 "at_moment" ["name", "moment"] (c_at_moment K)) (C_check_pattern : Cal P w K mg base 4 "check_pattern" ["names", "first", "last", "numbers", "wrong"] (c_check_pattern K))  {f : Addr} {cdv : Value} {A : Around} {outer : List Env} {s : Shared} {H : Hp} {E : XK} (hr : Room 4 (A.deeper (envOfC "after_rows" (defScope s_after_rows) s.heap.objs.size f cdv))) :
    PSs (cxOf (L2.CX P w) P w K mg base ["later", "earlier", "first", "last", "wait", "yes", "no", "rules", "moment", "by"] "after_rows" (defScope s_after_rows) f cdv A outer s H E) (defBody s_after_rows) (r_after_rows K (fun cls d _ H => E cls d H)) :=
  have tk0 := takes_of (X := cxOf (L2.CX P w) P w K mg base ["later", "earlier", "first", "last", "wait", "yes", "no", "rules", "moment", "by"] "after_rows" (defScope s_after_rows) f cdv A outer s H E) (E := E) rfl rfl rfl rfl
  (pss_cons (ps_expr (pe_cal C_check_pattern hr (by decide) (by rfl) tk0 (pa_cons (pe_lst (pa_cons (pv 0) (pa_cons (pv 1) pa_nil))) (pa_cons (pv 2) (pa_cons (pv 3) (pa_cons (pe_lst (pa_cons (pv 4) pa_nil)) (pa_cons (pe_cmpR op_ltA (pv 4) pe_int (nomark _)) pa_nil)))))))
  (pss_cons (ps_set (i := 7) sc_after_rows.nd rfl (.inl rfl) (pe_lst pa_nil))
  (pss_cons (ps_for (passes_of rfl) rfl (pi_range2 (by rfl) T.b_range (pa_cons (pv 2) (pa_cons (pe_op op_addA (pv 3) pe_int) pa_nil))) (pg_name (i := 8) sc_after_rows.nd rfl (.inl rfl)) (pss_cons (ps_set (i := 9) sc_after_rows.nd rfl (.inl rfl) (pe_ifExp (pt_cmpR op_ltA (pe_op op_subA (pv 8) (pv 4)) (pv 2) (nomark _)) pe_non (pe_cal C_at_moment hr (by decide) (by rfl) tk0 (pa_cons (pv 1) (pa_cons (pe_op op_subA (pv 8) (pv 4)) pa_nil)))))
  (pss_one (ps_expr (pe_bm PySem.F.plainAttrs_list PySem.F.slot_list_append PySem.F.type_list_append mt_append (pv 7) (pa_cons (pe_tup (pa_cons (pe_cal C_at_moment hr (by decide) (by rfl) tk0 (pa_cons (pv 0) (pa_cons (pv 8) pa_nil))) (pa_cons (pv 9) (pa_cons pe_int (pa_cons (pe_callTy cr_listA (by rfl) T.b_list (by decide +kernel) (pa_cons (pv 5) pa_nil)) (pa_cons (pe_callTy cr_listA (by rfl) T.b_list (by decide +kernel) (pa_cons (pv 6) pa_nil)) pa_nil)))))) pa_nil))))))
  (pss_one (ps_ret (pv 7))))))
theorem d_within_rows (T : Tx K mg) (C_at_moment : Cal P w K mg base 1 "at_moment" ["name", "moment"] (c_at_moment K)) (C_check_pattern : Cal P w K mg base 4 "check_pattern" ["names", "first", "last", "numbers", "wrong"] (c_check_pattern K))  {f : Addr} {cdv : Value} {A : Around} {outer : List Env} {s : Shared} {H : Hp} {E : XK} (hr : Room 4 (A.deeper (envOfC "within_rows" (defScope s_within_rows) s.heap.objs.size f cdv))) :
    PSs (cxOf (L2.CX P w) P w K mg base ["earlier", "later", "first", "last", "stay", "yes", "no", "rules", "moment"] "within_rows" (defScope s_within_rows) f cdv A outer s H E) (defBody s_within_rows) (r_within_rows K (fun cls d _ H => E cls d H)) :=
  have tk0 := takes_of (X := cxOf (L2.CX P w) P w K mg base ["earlier", "later", "first", "last", "stay", "yes", "no", "rules", "moment"] "within_rows" (defScope s_within_rows) f cdv A outer s H E) (E := E) rfl rfl rfl rfl
  (pss_cons (ps_expr (pe_cal C_check_pattern hr (by decide) (by rfl) tk0 (pa_cons (pe_lst (pa_cons (pv 0) (pa_cons (pv 1) pa_nil))) (pa_cons (pv 2) (pa_cons (pv 3) (pa_cons (pe_lst (pa_cons (pv 4) pa_nil)) (pa_cons (pe_cmpR op_ltA (pv 4) pe_int (nomark _)) pa_nil)))))))
  (pss_cons (ps_set (i := 7) sc_within_rows.nd rfl (.inl rfl) (pe_lst pa_nil))
  (pss_cons (ps_for (passes_of rfl) rfl (pi_range2 (by rfl) T.b_range (pa_cons (pv 2) (pa_cons (pe_op op_addA (pv 3) pe_int) pa_nil))) (pg_name (i := 8) sc_within_rows.nd rfl (.inl rfl)) (pss_one (ps_if (pt_cmpR op_leA (pe_op op_addA (pv 8) (pv 4)) (pv 3) (nomark _)) (pss_one (ps_expr (pe_bm PySem.F.plainAttrs_list PySem.F.slot_list_append PySem.F.type_list_append mt_append (pv 7) (pa_cons (pe_tup (pa_cons (pe_cal C_at_moment hr (by decide) (by rfl) tk0 (pa_cons (pv 0) (pa_cons (pv 8) pa_nil))) (pa_cons (pe_cal C_at_moment hr (by decide) (by rfl) tk0 (pa_cons (pv 1) (pa_cons (pe_op op_addA (pv 8) (pv 4)) pa_nil))) (pa_cons pe_int (pa_cons (pe_callTy cr_listA (by rfl) T.b_list (by decide +kernel) (pa_cons (pv 5) pa_nil)) (pa_cons (pe_callTy cr_listA (by rfl) T.b_list (by decide +kernel) (pa_cons (pv 6) pa_nil)) pa_nil)))))) pa_nil)))) pss_nil)))
  (pss_one (ps_ret (pv 7))))))
theorem d_due_rows (T : Tx K mg) (C_at_moment : Cal P w K mg base 1 "at_moment" ["name", "moment"] (c_at_moment K)) (C_check_pattern : Cal P w K mg base 4 "check_pattern" ["names", "first", "last", "numbers", "wrong"] (c_check_pattern K))  {f : Addr} {cdv : Value} {A : Around} {outer : List Env} {s : Shared} {H : Hp} {E : XK} (hr : Room 4 (A.deeper (envOfC "due_rows" (defScope s_due_rows) s.heap.objs.size f cdv))) :
    PSs (cxOf (L2.CX P w) P w K mg base ["name", "moment", "many", "yes", "no"] "due_rows" (defScope s_due_rows) f cdv A outer s H E) (defBody s_due_rows) (r_due_rows K (fun cls d _ H => E cls d H)) :=
  have tk0 := takes_of (X := cxOf (L2.CX P w) P w K mg base ["name", "moment", "many", "yes", "no"] "due_rows" (defScope s_due_rows) f cdv A outer s H E) (E := E) rfl rfl rfl rfl
  (pss_cons (ps_expr (pe_cal C_check_pattern hr (by decide) (by rfl) tk0 (pa_cons (pe_lst (pa_cons (pv 0) pa_nil)) (pa_cons (pv 1) (pa_cons (pv 1) (pa_cons (pe_lst (pa_cons (pv 2) pa_nil)) (pa_cons (pe_cmpR op_ltA (pv 2) pe_int (nomark _)) pa_nil)))))))
  (pss_one (ps_ret (pe_lst (pa_cons (pe_tup (pa_cons pe_non (pa_cons (pe_cal C_at_moment hr (by decide) (by rfl) tk0 (pa_cons (pv 0) (pa_cons (pv 1) pa_nil))) (pa_cons (pe_un un_negA (pv 2)) (pa_cons (pe_callTy cr_listA (by rfl) T.b_list (by decide +kernel) (pa_cons (pv 3) pa_nil)) (pa_cons (pe_callTy cr_listA (by rfl) T.b_list (by decide +kernel) (pa_cons (pv 4) pa_nil)) pa_nil)))))) pa_nil)))))
theorem d_turn_rows (T : Tx K mg) (C_at_moment : Cal P w K mg base 1 "at_moment" ["name", "moment"] (c_at_moment K)) (C_check_pattern : Cal P w K mg base 4 "check_pattern" ["names", "first", "last", "numbers", "wrong"] (c_check_pattern K))  {f : Addr} {cdv : Value} {A : Around} {outer : List Env} {s : Shared} {H : Hp} {E : XK} (hr : Room 4 (A.deeper (envOfC "turn_rows" (defScope s_turn_rows) s.heap.objs.size f cdv))) :
    PSs (cxOf (L2.CX P w) P w K mg base ["user", "giver", "first", "last", "own", "yes", "no", "rules", "moment"] "turn_rows" (defScope s_turn_rows) f cdv A outer s H E) (defBody s_turn_rows) (r_turn_rows K (fun cls d _ H => E cls d H)) :=
  have tk0 := takes_of (X := cxOf (L2.CX P w) P w K mg base ["user", "giver", "first", "last", "own", "yes", "no", "rules", "moment"] "turn_rows" (defScope s_turn_rows) f cdv A outer s H E) (E := E) rfl rfl rfl rfl
  (pss_cons (ps_expr (pe_cal C_check_pattern hr (by decide) (by rfl) tk0 (pa_cons (pe_lst (pa_cons (pv 0) (pa_cons (pv 1) pa_nil))) (pa_cons (pv 2) (pa_cons (pv 3) (pa_cons (pe_lst (pa_cons (pv 4) pa_nil)) (pa_cons (pe_cmpR op_ltA (pv 4) pe_int (nomark _)) pa_nil)))))))
  (pss_cons (ps_set (i := 7) sc_turn_rows.nd rfl (.inl rfl) (pe_lst pa_nil))
  (pss_cons (ps_for (passes_of rfl) rfl (pi_range2 (by rfl) T.b_range (pa_cons (pv 2) (pa_cons (pe_op op_addA (pv 3) pe_int) pa_nil))) (pg_name (i := 8) sc_turn_rows.nd rfl (.inl rfl)) (pss_one (ps_expr (pe_bm PySem.F.plainAttrs_list PySem.F.slot_list_append PySem.F.type_list_append mt_append (pv 7) (pa_cons (pe_tup (pa_cons (pe_cal C_at_moment hr (by decide) (by rfl) tk0 (pa_cons (pv 0) (pa_cons (pv 8) pa_nil))) (pa_cons (pe_cal C_at_moment hr (by decide) (by rfl) tk0 (pa_cons (pv 1) (pa_cons (pv 8) pa_nil))) (pa_cons (pv 4) (pa_cons (pe_callTy cr_listA (by rfl) T.b_list (by decide +kernel) (pa_cons (pv 5) pa_nil)) (pa_cons (pe_callTy cr_listA (by rfl) T.b_list (by decide +kernel) (pa_cons (pv 6) pa_nil)) pa_nil)))))) pa_nil)))))
  (pss_one (ps_ret (pv 7))))))
theorem d_road_letters (T : Tx K mg) (C_check_pattern : Cal P w K mg base 4 "check_pattern" ["names", "first", "last", "numbers", "wrong"] (c_check_pattern K))  {f : Addr} {cdv : Value} {A : Around} {outer : List Env} {s : Shared} {H : Hp} {E : XK} (hr : Room 4 (A.deeper (envOfC "road_letters" (defScope s_road_letters) s.heap.objs.size f cdv))) :
    PSs (cxOf (L2.CX P w) P w K mg base ["sender", "receiver", "first", "last", "lag", "moment"] "road_letters" (defScope s_road_letters) f cdv A outer s H E) (defBody s_road_letters) (r_road_letters K (fun cls d _ H => E cls d H)) :=
  have tk0 := takes_of (X := cxOf (L2.CX P w) P w K mg base ["sender", "receiver", "first", "last", "lag", "moment"] "road_letters" (defScope s_road_letters) f cdv A outer s H E) (E := E) rfl rfl rfl rfl
  (pss_cons (ps_expr (pe_cal C_check_pattern hr (by decide) (by rfl) tk0 (pa_cons (pe_lst pa_nil) (pa_cons (pv 2) (pa_cons (pv 3) (pa_cons (pe_lst (pa_cons (pv 4) pa_nil)) (pa_cons (pe_cmpR op_ltA (pv 4) pe_int (nomark _)) pa_nil)))))))
  (pss_one (ps_ret (pe_lc (own := [("moment", 5)]) (g := (gName 5)) (tt := tYes) (te := (tTup (tCons (tVar 0) (tCons (tVar 5) (tCons (tVar 1) (tCons (tOp rAddA (tVar 5) (tVar 4)) (tCons (tLst tNil) (tCons (tLst tNil) tNil)))))))) (by rfl) sc_road_letters.nd (pi_range2 (by rfl) T.b_range (pa_cons (pv 2) (pa_cons (pe_op op_addA (pv 3) pe_int) pa_nil))) (blkOk_by (N := ["sender", "receiver", "first", "last", "lag", "moment"]) (sc := defScope s_road_letters) (by decide +kernel)) (fun _ _ _ _ _ => (pg_name (i := 5) sc_road_letters.nd rfl (.inl rfl))) (fun _ _ _ _ _ => pts_nil) (fun _ _ _ _ _ => (pe_tup (pa_cons (pv 0) (pa_cons (pv 5) (pa_cons (pv 1) (pa_cons (pe_op op_addA (pv 5) (pv 4)) (pa_cons (pe_lst pa_nil) (pa_cons (pe_lst pa_nil) pa_nil))))))))))))
theorem d_watch_sights (T : Tx K mg) (C_check_pattern : Cal P w K mg base 4 "check_pattern" ["names", "first", "last", "numbers", "wrong"] (c_check_pattern K)) (C_is_word : Cal P w K mg base 1 "is_word" ["word"] (c_is_word K)) (I_BadPattern : InitOk P w K mg base "BadPattern" ["what"]) {f : Addr} {cdv : Value} {A : Around} {outer : List Env} {s : Shared} {H : Hp} {E : XK} (hr : Room 4 (A.deeper (envOfC "watch_sights" (defScope s_watch_sights) s.heap.objs.size f cdv))) :
    PSs (cxOf (L2.CX P w) P w K mg base ["mishap", "helper", "first", "last", "moment"] "watch_sights" (defScope s_watch_sights) f cdv A outer s H E) (defBody s_watch_sights) (r_watch_sights K (fun cls d _ H => E cls d H)) :=
  have tk0 := takes_of (X := cxOf (L2.CX P w) P w K mg base ["mishap", "helper", "first", "last", "moment"] "watch_sights" (defScope s_watch_sights) f cdv A outer s H E) (E := E) rfl rfl rfl rfl
  (pss_cons (ps_expr (pe_cal C_check_pattern hr (by decide) (by rfl) tk0 (pa_cons (pe_lst pa_nil) (pa_cons (pv 2) (pa_cons (pv 3) (pa_cons (pe_lst pa_nil) (pa_cons pe_bl pa_nil)))))))
  (pss_cons (ps_if (pt_not (pt_val (pe_cal C_is_word hr (by decide) (by rfl) tk0 (pa_cons (pv 0) pa_nil)))) (pss_one (ps_raiseX T.x_BadPattern I_BadPattern hr tk0 (pa_cons pe_str pa_nil))) pss_nil)
  (pss_one (ps_ret (pe_lc (own := [("moment", 4)]) (g := (gName 4)) (tt := tYes) (te := (tTup (tCons (tVar 0) (tCons (tVar 1) (tCons (tVar 4) (tCons (tC .non) (tCons (tC (.int 0)) tNil))))))) (by rfl) sc_watch_sights.nd (pi_range2 (by rfl) T.b_range (pa_cons (pv 2) (pa_cons (pe_op op_addA (pv 3) pe_int) pa_nil))) (blkOk_by (N := ["mishap", "helper", "first", "last", "moment"]) (sc := defScope s_watch_sights) (by decide +kernel)) (fun _ _ _ _ _ => (pg_name (i := 4) sc_watch_sights.nd rfl (.inl rfl))) (fun _ _ _ _ _ => pts_nil) (fun _ _ _ _ _ => (pe_tup (pa_cons (pv 0) (pa_cons (pv 1) (pa_cons (pv 4) (pa_cons pe_non (pa_cons pe_int pa_nil))))))))))))
theorem d_stock_rows (T : Tx K mg) (C_at_moment : Cal P w K mg base 1 "at_moment" ["name", "moment"] (c_at_moment K)) (C_below_zero : Cal P w K mg base 1 "below_zero" ["number"] (c_below_zero K)) (C_check_pattern : Cal P w K mg base 4 "check_pattern" ["names", "first", "last", "numbers", "wrong"] (c_check_pattern K)) (C_crossed : Cal P w K mg base 1 "crossed" ["low", "high"] (c_crossed K))  {f : Addr} {cdv : Value} {A : Around} {outer : List Env} {s : Shared} {H : Hp} {E : XK} (hr : Room 4 (A.deeper (envOfC "stock_rows" (defScope s_stock_rows) s.heap.objs.size f cdv))) :
    PSs (cxOf (L2.CX P w) P w K mg base ["over", "under", "first", "last", "low", "high", "yes", "no", "rules", "moment"] "stock_rows" (defScope s_stock_rows) f cdv A outer s H E) (defBody s_stock_rows) (r_stock_rows K (fun cls d _ H => E cls d H)) :=
  have tk0 := takes_of (X := cxOf (L2.CX P w) P w K mg base ["over", "under", "first", "last", "low", "high", "yes", "no", "rules", "moment"] "stock_rows" (defScope s_stock_rows) f cdv A outer s H E) (E := E) rfl rfl rfl rfl
  (pss_cons (ps_expr (pe_cal C_check_pattern hr (by decide) (by rfl) tk0 (pa_cons (pe_lst (pa_cons (pv 0) (pa_cons (pv 1) pa_nil))) (pa_cons (pv 2) (pa_cons (pv 3) (pa_cons (pe_lst (pa_cons (pv 4) (pa_cons (pv 5) pa_nil))) (pa_cons (pe_or (pe_cal C_below_zero hr (by decide) (by rfl) tk0 (pa_cons (pv 5) pa_nil)) (pe_one (pe_cal C_crossed hr (by decide) (by rfl) tk0 (pa_cons (pv 4) (pa_cons (pv 5) pa_nil))))) pa_nil)))))))
  (pss_cons (ps_set (i := 8) sc_stock_rows.nd rfl (.inl rfl) (pe_lst pa_nil))
  (pss_cons (ps_for (passes_of rfl) rfl (pi_range2 (by rfl) T.b_range (pa_cons (pv 2) (pa_cons (pe_op op_addA (pv 3) pe_int) pa_nil))) (pg_name (i := 9) sc_stock_rows.nd rfl (.inl rfl)) (pss_cons (ps_if (pt_cmpR op_isNotA (pv 4) pe_non (nomark _)) (pss_one (ps_expr (pe_bm PySem.F.plainAttrs_list PySem.F.slot_list_append PySem.F.type_list_append mt_append (pv 8) (pa_cons (pe_tup (pa_cons (pe_cal C_at_moment hr (by decide) (by rfl) tk0 (pa_cons (pv 1) (pa_cons (pv 9) pa_nil))) (pa_cons (pe_cal C_at_moment hr (by decide) (by rfl) tk0 (pa_cons (pv 0) (pa_cons (pv 9) pa_nil))) (pa_cons (pe_un un_negA (pv 4)) (pa_cons (pe_callTy cr_listA (by rfl) T.b_list (by decide +kernel) (pa_cons (pv 6) pa_nil)) (pa_cons (pe_callTy cr_listA (by rfl) T.b_list (by decide +kernel) (pa_cons (pv 7) pa_nil)) pa_nil)))))) pa_nil)))) pss_nil)
  (pss_one (ps_if (pt_cmpR op_isNotA (pv 5) pe_non (nomark _)) (pss_one (ps_expr (pe_bm PySem.F.plainAttrs_list PySem.F.slot_list_append PySem.F.type_list_append mt_append (pv 8) (pa_cons (pe_tup (pa_cons (pe_cal C_at_moment hr (by decide) (by rfl) tk0 (pa_cons (pv 0) (pa_cons (pv 9) pa_nil))) (pa_cons (pe_cal C_at_moment hr (by decide) (by rfl) tk0 (pa_cons (pv 1) (pa_cons (pv 9) pa_nil))) (pa_cons (pv 5) (pa_cons (pe_callTy cr_listA (by rfl) T.b_list (by decide +kernel) (pa_cons (pv 6) pa_nil)) (pa_cons (pe_callTy cr_listA (by rfl) T.b_list (by decide +kernel) (pa_cons (pv 7) pa_nil)) pa_nil)))))) pa_nil)))) pss_nil))))
  (pss_one (ps_ret (pv 8))))))
theorem d_loss_rows (T : Tx K mg) (C_at_moment : Cal P w K mg base 1 "at_moment" ["name", "moment"] (c_at_moment K)) (C_check_pattern : Cal P w K mg base 4 "check_pattern" ["names", "first", "last", "numbers", "wrong"] (c_check_pattern K))  {f : Addr} {cdv : Value} {A : Around} {outer : List Env} {s : Shared} {H : Hp} {E : XK} (hr : Room 4 (A.deeper (envOfC "loss_rows" (defScope s_loss_rows) s.heap.objs.size f cdv))) :
    PSs (cxOf (L2.CX P w) P w K mg base ["over", "under", "first", "last", "low", "many", "yes", "rules", "moment"] "loss_rows" (defScope s_loss_rows) f cdv A outer s H E) (defBody s_loss_rows) (r_loss_rows K (fun cls d _ H => E cls d H)) :=
  have tk0 := takes_of (X := cxOf (L2.CX P w) P w K mg base ["over", "under", "first", "last", "low", "many", "yes", "rules", "moment"] "loss_rows" (defScope s_loss_rows) f cdv A outer s H E) (E := E) rfl rfl rfl rfl
  (pss_cons (ps_expr (pe_cal C_check_pattern hr (by decide) (by rfl) tk0 (pa_cons (pe_lst (pa_cons (pv 0) (pa_cons (pv 1) pa_nil))) (pa_cons (pv 2) (pa_cons (pv 3) (pa_cons (pe_lst (pa_cons (pv 4) (pa_cons (pv 5) pa_nil))) (pa_cons (pe_cmpR op_ltA (pv 5) pe_int (nomark _)) pa_nil)))))))
  (pss_cons (ps_set (i := 7) sc_loss_rows.nd rfl (.inl rfl) (pe_lst pa_nil))
  (pss_cons (ps_for (passes_of rfl) rfl (pi_range2 (by rfl) T.b_range (pa_cons (pv 2) (pa_cons (pe_op op_addA (pv 3) pe_int) pa_nil))) (pg_name (i := 8) sc_loss_rows.nd rfl (.inl rfl)) (pss_one (ps_expr (pe_bm PySem.F.plainAttrs_list PySem.F.slot_list_append PySem.F.type_list_append mt_append (pv 7) (pa_cons (pe_tup (pa_cons (pe_cal C_at_moment hr (by decide) (by rfl) tk0 (pa_cons (pv 1) (pa_cons (pv 8) pa_nil))) (pa_cons (pe_cal C_at_moment hr (by decide) (by rfl) tk0 (pa_cons (pv 0) (pa_cons (pv 8) pa_nil))) (pa_cons (pe_op op_subA (pe_un un_negA (pv 4)) (pv 5)) (pa_cons (pe_callTy cr_listA (by rfl) T.b_list (by decide +kernel) (pa_cons (pv 6) pa_nil)) (pa_cons (pe_lst pa_nil) pa_nil)))))) pa_nil)))))
  (pss_one (ps_ret (pv 7))))))
theorem d__law_purse (T : Tx K mg)   {f : Addr} {cdv : Value} {A : Around} {outer : List Env} {s : Shared} {H : Hp} {E : XK} (hr : Room 0 (A.deeper (envOfC "_law_purse" (defScope s__law_purse) s.heap.objs.size f cdv))) :
    PSs (cxOf (L2.CX P w) P w K mg base ["script", "at", "cell", "size", "one"] "_law_purse" (defScope s__law_purse) f cdv A outer s H E) (defBody s__law_purse) (r__law_purse K (fun cls d _ H => E cls d H)) :=
  have tk0 := takes_of (X := cxOf (L2.CX P w) P w K mg base ["script", "at", "cell", "size", "one"] "_law_purse" (defScope s__law_purse) f cdv A outer s H E) (E := E) rfl rfl rfl rfl
  (pss_cons (ps_set (i := 2) sc__law_purse.nd rfl (.inl rfl) (pe_ifExp (pt_cmpR op_ltA (pv 1) (pe_callB cr_lenA (by rfl) T.b_len (by decide +kernel) (pa_cons (pv 0) pa_nil)) (nomark _)) (pe_callTy cr_intI (by rfl) T.b_int (by decide +kernel) (pa_cons (pe_ix (ix_A (hr).units) (pv 0) (pv 1) (fun _ _ => rfl)) pa_nil)) (pe_op op_mulA pe_int (pe_callB (cr_sumA rfl) (by rfl) T.b_sum (by decide +kernel) (pa_cons (pe_lc (own := [("one", 4)]) (g := (gName 4)) (tt := tYes) (te := (tCB rIntI (tCons (tVar 4) tNil))) (by rfl) sc__law_purse.nd (pi_sq (pe_slice sl_A (pv 0) po_none (po_some pe_int))) (blkOk_by (N := ["script", "at", "cell", "size", "one"]) (sc := defScope s__law_purse) (by decide +kernel)) (fun _ _ _ _ _ => (pg_name (i := 4) sc__law_purse.nd rfl (.inl rfl))) (fun _ _ _ _ _ => pts_nil) (fun _ _ _ _ _ => (pe_callTy cr_intI (by rfl) T.b_int (by decide +kernel) (pa_cons (pv 4) pa_nil)))) pa_nil)))))
  (pss_cons (ps_set (i := 3) sc__law_purse.nd rfl (.inl rfl) (pe_op op_addA (pe_op op_mulA pe_int (pe_callB cr_absI (by rfl) T.b_abs (by decide +kernel) (pa_cons (pv 2) pa_nil))) (pe_ifExp (pt_cmpR op_ltA (pv 2) pe_int (nomark _)) pe_int pe_int)))
  (pss_one (ps_ret (pe_lst (pa_cons (pe_ifExp (pt_cmpR op_geA (pv 3) (pe_op op_powA pe_int pe_int) (nomark _)) (pv 3) pe_int) (pa_cons (pe_op op_modA (pe_callTy cr_intI (by rfl) T.b_int (by decide +kernel) (pa_cons (pe_op op_addA (pe_op op_addA (pv 3) (pe_op op_mulA (pv 1) pe_int)) pe_int) pa_nil)) pe_int) (pa_cons (pv 1) pa_nil))))))))
theorem d__law_draw (T : Tx K mg)   {f : Addr} {cdv : Value} {A : Around} {outer : List Env} {s : Shared} {H : Hp} {E : XK} (hr : Room 0 (A.deeper (envOfC "_law_draw" (defScope s__law_draw) s.heap.objs.size f cdv))) :
    PSs (cxOf (L2.CX P w) P w K mg base ["purse", "many", "found"] "_law_draw" (defScope s__law_draw) f cdv A outer s H E) (defBody s__law_draw) (r__law_draw K (fun cls d _ H => E cls d H)) :=
  have tk0 := takes_of (X := cxOf (L2.CX P w) P w K mg base ["purse", "many", "found"] "_law_draw" (defScope s__law_draw) f cdv A outer s H E) (E := E) rfl rfl rfl rfl
  (pss_cons (ps_if (pt_cmpR op_gtA (pe_ix (ix_A (hr).units) (pv 0) pe_int (fun _ _ => rfl)) pe_int (nomark _)) (pss_cons (ps_set (i := 2) sc__law_draw.nd rfl (.inl rfl) (pe_op op_modA (pe_callTy cr_intI (by rfl) T.b_int (by decide +kernel) (pa_cons (pe_ix (ix_A (hr).units) (pv 0) pe_int (fun _ _ => rfl)) pa_nil)) (pv 1)))
  (pss_cons (ps_asg (pe_op op_divA (pe_ix (ix_A (hr).units) (pv 0) pe_int (fun _ _ => rfl)) (pv 1)) (pg_sub (pv 0) pe_int set_list))
  (pss_one (ps_ret (pv 2))))) pss_nil)
  (pss_cons (ps_augS (pv 0) pe_int pget_list pe_int ip_add set_list)
  (pss_cons (ps_asg (pe_op op_modA (pe_callTy cr_intI (by rfl) T.b_int (by decide +kernel) (pa_cons (pe_op op_addA (pe_op op_mulA (pe_ix (ix_A (hr).units) (pv 0) pe_int (fun _ _ => rfl)) pe_int) (pe_op op_mulA (pe_ix (ix_A (hr).units) (pv 0) pe_int (fun _ _ => rfl)) pe_int)) pa_nil)) pe_int) (pg_sub (pv 0) pe_int set_list))
  (pss_one (ps_ret (pe_op op_modA (pe_op op_divA (pe_op op_modA (pe_callTy cr_intI (by rfl) T.b_int (by decide +kernel) (pa_cons (pe_op op_addA (pe_op op_mulA (pe_ix (ix_A (hr).units) (pv 0) pe_int (fun _ _ => rfl)) pe_int) (pe_op op_mulA (pe_ix (ix_A (hr).units) (pv 0) pe_int (fun _ _ => rfl)) pe_int)) pa_nil)) pe_int) pe_int) (pv 1)))))))
theorem d__law_word (T : Tx K mg) (C__law_draw : Cal P w K mg base 1 "_law_draw" ["purse", "many"] (c__law_draw K))  {f : Addr} {cdv : Value} {A : Around} {outer : List Env} {s : Shared} {H : Hp} {E : XK} (hr : Room 1 (A.deeper (envOfC "_law_word" (defScope s__law_word) s.heap.objs.size f cdv))) :
    PSs (cxOf (L2.CX P w) P w K mg base ["purse", "taken", "signs", "base", "turn", "word"] "_law_word" (defScope s__law_word) f cdv A outer s H E) (defBody s__law_word) (r__law_word K (fun cls d _ H => E cls d H)) :=
  have tk0 := takes_of (X := cxOf (L2.CX P w) P w K mg base ["purse", "taken", "signs", "base", "turn", "word"] "_law_word" (defScope s__law_word) f cdv A outer s H E) (E := E) rfl rfl rfl rfl
  (pss_cons (ps_set (i := 2) sc__law_word.nd rfl (.inl rfl) pe_str)
  (pss_cons (ps_set (i := 3) sc__law_word.nd rfl (.inl rfl) (pe_ix (ix_A (hr).units) (pv 2) (pe_cal C__law_draw hr (by decide) (by rfl) tk0 (pa_cons (pv 0) (pa_cons pe_int pa_nil))) (fun _ _ => rfl)))
  (pss_cons (ps_for (passes_of rfl) rfl (pi_range1 (by rfl) T.b_range (pa_cons (pe_ifExp (pt_cmpR (op_eqP (hr).units) (pe_cal C__law_draw hr (by decide) (by rfl) tk0 (pa_cons (pv 0) (pa_cons pe_int pa_nil))) pe_int (nomark _)) pe_int (pe_cal C__law_draw hr (by decide) (by rfl) tk0 (pa_cons (pv 0) (pa_cons pe_int pa_nil)))) pa_nil)) (pg_name (i := 4) sc__law_word.nd rfl (.inl rfl)) (pss_one (ps_set (i := 3) sc__law_word.nd rfl (.inl rfl) (pe_op op_addA (pv 3) (pe_ix (ix_A (hr).units) (pv 2) (pe_cal C__law_draw hr (by decide) (by rfl) tk0 (pa_cons (pv 0) (pa_cons pe_int pa_nil))) (fun _ _ => rfl))))))
  (pss_cons (ps_set (i := 5) sc__law_word.nd rfl (.inl rfl) (pv 3))
  (pss_cons (ps_for (passes_of rfl) rfl (pi_range1 (by rfl) T.b_range (pa_cons pe_int pa_nil)) (pg_name (i := 4) sc__law_word.nd rfl (.inl rfl)) (pss_cons (ps_if (PW.pt (pw_and (pt_cmpR (op_notInA (hr).units) (pv 5) (pv 1) (by rfl)) (pw_and1 (pt_cmpR (op_notInA (hr).units) (pv 5) (pe_lst (pa_cons pe_str (pa_cons pe_str pa_nil))) (by rfl))))) (pss_one (ps_ret (pv 5))) pss_nil)
  (pss_one (ps_set (i := 5) sc__law_word.nd rfl (.inl rfl) (pe_op op_addA (pe_slice sl_A (pv 3) po_none (po_some pe_int)) (pe_callTy cr_strI (by rfl) T.b_str (by decide +kernel) (pa_cons (pv 4) pa_nil)))))))
  (pss_one (ps_ret (pv 5))))))))
theorem d__law_words (T : Tx K mg) (C__law_word : Cal P w K mg base 2 "_law_word" ["purse", "taken"] (c__law_word K))  {f : Addr} {cdv : Value} {A : Around} {outer : List Env} {s : Shared} {H : Hp} {E : XK} (hr : Room 2 (A.deeper (envOfC "_law_words" (defScope s__law_words) s.heap.objs.size f cdv))) :
    PSs (cxOf (L2.CX P w) P w K mg base ["purse", "many", "words", "turn"] "_law_words" (defScope s__law_words) f cdv A outer s H E) (defBody s__law_words) (r__law_words K (fun cls d _ H => E cls d H)) :=
  have tk0 := takes_of (X := cxOf (L2.CX P w) P w K mg base ["purse", "many", "words", "turn"] "_law_words" (defScope s__law_words) f cdv A outer s H E) (E := E) rfl rfl rfl rfl
  (pss_cons (ps_set (i := 2) sc__law_words.nd rfl (.inl rfl) (pe_lst pa_nil))
  (pss_cons (ps_for (passes_of rfl) rfl (pi_range1 (by rfl) T.b_range (pa_cons (pv 1) pa_nil)) (pg_name (i := 3) sc__law_words.nd rfl (.inl rfl)) (pss_one (ps_expr (pe_bm PySem.F.plainAttrs_list PySem.F.slot_list_append PySem.F.type_list_append mt_append (pv 2) (pa_cons (pe_cal C__law_word hr (by decide) (by rfl) tk0 (pa_cons (pv 0) (pa_cons (pv 2) pa_nil))) pa_nil)))))
  (pss_one (ps_ret (pv 2)))))
theorem d__law_sides (T : Tx K mg) (C__law_draw : Cal P w K mg base 1 "_law_draw" ["purse", "many"] (c__law_draw K))  {f : Addr} {cdv : Value} {A : Around} {outer : List Env} {s : Shared} {H : Hp} {E : XK} (hr : Room 1 (A.deeper (envOfC "_law_sides" (defScope s__law_sides) s.heap.objs.size f cdv))) :
    PSs (cxOf (L2.CX P w) P w K mg base ["purse", "mishaps", "yes", "no", "word", "kind"] "_law_sides" (defScope s__law_sides) f cdv A outer s H E) (defBody s__law_sides) (r__law_sides K (fun cls d _ H => E cls d H)) :=
  have tk0 := takes_of (X := cxOf (L2.CX P w) P w K mg base ["purse", "mishaps", "yes", "no", "word", "kind"] "_law_sides" (defScope s__law_sides) f cdv A outer s H E) (E := E) rfl rfl rfl rfl
  (pss_cons (ps_set (i := 2) sc__law_sides.nd rfl (.inl rfl) (pe_lst pa_nil))
  (pss_cons (ps_set (i := 3) sc__law_sides.nd rfl (.inl rfl) (pe_lst pa_nil))
  (pss_cons (ps_for (passes_of rfl) rfl (pi_sq (pv 1)) (pg_name (i := 4) sc__law_sides.nd rfl (.inl rfl)) (pss_cons (ps_set (i := 5) sc__law_sides.nd rfl (.inl rfl) (pe_cal C__law_draw hr (by decide) (by rfl) tk0 (pa_cons (pv 0) (pa_cons pe_int pa_nil))))
  (pss_cons (ps_if (pt_cmpR (op_eqP (hr).units) (pv 5) pe_int (nomark _)) (pss_one (ps_expr (pe_bm PySem.F.plainAttrs_list PySem.F.slot_list_append PySem.F.type_list_append mt_append (pv 2) (pa_cons (pv 4) pa_nil)))) pss_nil)
  (pss_one (ps_if (pt_cmpR (op_eqP (hr).units) (pv 5) pe_int (nomark _)) (pss_one (ps_expr (pe_bm PySem.F.plainAttrs_list PySem.F.slot_list_append PySem.F.type_list_append mt_append (pv 3) (pa_cons (pv 4) pa_nil)))) pss_nil)))))
  (pss_one (ps_ret (pe_lst (pa_cons (pv 2) (pa_cons (pv 3) pa_nil))))))))
theorem d__law_number (T : Tx K mg) (C__law_draw : Cal P w K mg base 1 "_law_draw" ["purse", "many"] (c__law_draw K))  {f : Addr} {cdv : Value} {A : Around} {outer : List Env} {s : Shared} {H : Hp} {E : XK} (hr : Room 1 (A.deeper (envOfC "_law_number" (defScope s__law_number) s.heap.objs.size f cdv))) :
    PSs (cxOf (L2.CX P w) P w K mg base ["purse", "small", "kind"] "_law_number" (defScope s__law_number) f cdv A outer s H E) (defBody s__law_number) (r__law_number K (fun cls d _ H => E cls d H)) :=
  have tk0 := takes_of (X := cxOf (L2.CX P w) P w K mg base ["purse", "small", "kind"] "_law_number" (defScope s__law_number) f cdv A outer s H E) (E := E) rfl rfl rfl rfl
  (pss_cons (ps_set (i := 2) sc__law_number.nd rfl (.inl rfl) (pe_cal C__law_draw hr (by decide) (by rfl) tk0 (pa_cons (pv 0) (pa_cons pe_int pa_nil))))
  (pss_cons (ps_if (pt_cmpR (op_eqP (hr).units) (pv 2) pe_int (nomark _)) (pss_one (ps_ret (pe_op op_subA (pe_op op_powA pe_int pe_int) (pe_cal C__law_draw hr (by decide) (by rfl) tk0 (pa_cons (pv 0) (pa_cons pe_int pa_nil)))))) pss_nil)
  (pss_cons (ps_if (pt_cmpR (op_eqP (hr).units) (pv 2) pe_int (nomark _)) (pss_one (ps_ret (pe_op op_subA (pe_cal C__law_draw hr (by decide) (by rfl) tk0 (pa_cons (pv 0) (pa_cons pe_int pa_nil))) (pe_op op_powA pe_int pe_int)))) pss_nil)
  (pss_one (ps_ret (pe_op op_subA (pe_cal C__law_draw hr (by decide) (by rfl) tk0 (pa_cons (pv 0) (pa_cons (pe_op op_addA (pe_op op_mulA pe_int (pv 1)) pe_int) pa_nil))) (pv 1)))))))
theorem d__law_at (T : Tx K mg)   {f : Addr} {cdv : Value} {A : Around} {outer : List Env} {s : Shared} {H : Hp} {E : XK} (hr : Room 0 (A.deeper (envOfC "_law_at" (defScope s__law_at) s.heap.objs.size f cdv))) :
    PSs (cxOf (L2.CX P w) P w K mg base ["name", "moment"] "_law_at" (defScope s__law_at) f cdv A outer s H E) (defBody s__law_at) (r__law_at K (fun cls d _ H => E cls d H)) :=
  have tk0 := takes_of (X := cxOf (L2.CX P w) P w K mg base ["name", "moment"] "_law_at" (defScope s__law_at) f cdv A outer s H E) (E := E) rfl rfl rfl rfl
  (pss_one (ps_ret (pe_op op_addA (pe_op op_addA (pv 0) pe_str) (pe_callTy cr_strI (by rfl) T.b_str (by decide +kernel) (pa_cons (pv 1) pa_nil)))))
theorem d__law_keeps (T : Tx K mg)   {f : Addr} {cdv : Value} {A : Around} {outer : List Env} {s : Shared} {H : Hp} {E : XK} (hr : Room 0 (A.deeper (envOfC "_law_keeps" (defScope s__law_keeps) s.heap.objs.size f cdv))) :
    PSs (cxOf (L2.CX P w) P w K mg base ["rows", "values", "row", "low", "high"] "_law_keeps" (defScope s__law_keeps) f cdv A outer s H E) (defBody s__law_keeps) (r__law_keeps K (fun cls d _ H => E cls d H)) :=
  have tk0 := takes_of (X := cxOf (L2.CX P w) P w K mg base ["rows", "values", "row", "low", "high"] "_law_keeps" (defScope s__law_keeps) f cdv A outer s H E) (E := E) rfl rfl rfl rfl
  (pss_cons (ps_for (passes_of rfl) rfl (pi_sq (pv 0)) (pg_name (i := 2) sc__law_keeps.nd rfl (.inl rfl)) (pss_cons (ps_set (i := 3) sc__law_keeps.nd rfl (.inl rfl) (pe_ifExp (pt_cmpR op_isA (pe_ix (ix_A (hr).units) (pv 2) pe_int (fun _ _ => rfl)) pe_non (nomark _)) pe_int (pe_ix (ix_A (hr).units) (pv 1) (pe_ix (ix_A (hr).units) (pv 2) pe_int (fun _ _ => rfl)) (fun _ _ => rfl))))
  (pss_cons (ps_set (i := 4) sc__law_keeps.nd rfl (.inl rfl) (pe_ifExp (pt_cmpR op_isA (pe_ix (ix_A (hr).units) (pv 2) pe_int (fun _ _ => rfl)) pe_non (nomark _)) pe_int (pe_ix (ix_A (hr).units) (pv 1) (pe_ix (ix_A (hr).units) (pv 2) pe_int (fun _ _ => rfl)) (fun _ _ => rfl))))
  (pss_one (ps_if (pt_cmpR op_gtA (pv 3) (pe_op op_addA (pv 4) (pe_ix (ix_A (hr).units) (pv 2) pe_int (fun _ _ => rfl))) (nomark _)) (pss_one (ps_ret pe_bl)) pss_nil)))))
  (pss_one (ps_ret pe_bl)))
theorem d__law_counts (T : Tx K mg) (C__law_at : Cal P w K mg base 1 "_law_at" ["name", "moment"] (c__law_at K)) (C__law_draw : Cal P w K mg base 1 "_law_draw" ["purse", "many"] (c__law_draw K))  {f : Addr} {cdv : Value} {A : Around} {outer : List Env} {s : Shared} {H : Hp} {E : XK} (hr : Room 1 (A.deeper (envOfC "_law_counts" (defScope s__law_counts) s.heap.objs.size f cdv))) :
    PSs (cxOf (L2.CX P w) P w K mg base ["purse", "names", "first", "last", "step", "values", "name", "count", "moment"] "_law_counts" (defScope s__law_counts) f cdv A outer s H E) (defBody s__law_counts) (r__law_counts K (fun cls d _ H => E cls d H)) :=
  have tk0 := takes_of (X := cxOf (L2.CX P w) P w K mg base ["purse", "names", "first", "last", "step", "values", "name", "count", "moment"] "_law_counts" (defScope s__law_counts) f cdv A outer s H E) (E := E) rfl rfl rfl rfl
  (pss_cons (ps_set (i := 5) sc__law_counts.nd rfl (.inl rfl) pe_dnewK)
  (pss_cons (ps_for (passes_of rfl) rfl (pi_sq (pv 1)) (pg_name (i := 6) sc__law_counts.nd rfl (.inl rfl)) (pss_cons (ps_set (i := 7) sc__law_counts.nd rfl (.inl rfl) pe_int)
  (pss_one (ps_for (passes_of rfl) rfl (pi_range2 (by rfl) T.b_range (pa_cons (pv 2) (pa_cons (pe_op op_addA (pv 3) pe_int) pa_nil))) (pg_name (i := 8) sc__law_counts.nd rfl (.inl rfl)) (pss_cons (ps_set (i := 7) sc__law_counts.nd rfl (.inl rfl) (pe_op op_addA (pv 7) (pe_cal C__law_draw hr (by decide) (by rfl) tk0 (pa_cons (pv 0) (pa_cons (pe_op op_addA (pv 4) pe_int) pa_nil)))))
  (pss_one (ps_dput (hu_of hr) (pv 5) (pe_cal C__law_at hr (by decide) (by rfl) tk0 (pa_cons (pv 6) (pa_cons (pv 8) pa_nil))) (pv 7) rfl)))))))
  (pss_one (ps_ret (pv 5)))))
theorem d__law_span (T : Tx K mg) (C__law_draw : Cal P w K mg base 1 "_law_draw" ["purse", "many"] (c__law_draw K))  {f : Addr} {cdv : Value} {A : Around} {outer : List Env} {s : Shared} {H : Hp} {E : XK} (hr : Room 1 (A.deeper (envOfC "_law_span" (defScope s__law_span) s.heap.objs.size f cdv))) :
    PSs (cxOf (L2.CX P w) P w K mg base ["purse", "first", "long"] "_law_span" (defScope s__law_span) f cdv A outer s H E) (defBody s__law_span) (r__law_span K (fun cls d _ H => E cls d H)) :=
  have tk0 := takes_of (X := cxOf (L2.CX P w) P w K mg base ["purse", "first", "long"] "_law_span" (defScope s__law_span) f cdv A outer s H E) (E := E) rfl rfl rfl rfl
  (pss_cons (ps_set (i := 1) sc__law_span.nd rfl (.inl rfl) (pe_cal C__law_draw hr (by decide) (by rfl) tk0 (pa_cons (pv 0) (pa_cons pe_int pa_nil))))
  (pss_cons (ps_set (i := 2) sc__law_span.nd rfl (.inl rfl) (pe_cal C__law_draw hr (by decide) (by rfl) tk0 (pa_cons (pv 0) (pa_cons pe_int pa_nil))))
  (pss_one (ps_ret (pe_lst (pa_cons (pv 1) (pa_cons (pe_ifExp (pt_cmpR (op_eqP (hr).units) (pv 2) pe_int (nomark _)) pe_int (pe_op op_addA (pv 1) (pe_cal C__law_draw hr (by decide) (by rfl) tk0 (pa_cons (pv 0) (pa_cons pe_int pa_nil))))) pa_nil)))))))
theorem d__law_sided (T : Tx K mg)   {f : Addr} {cdv : Value} {A : Around} {outer : List Env} {s : Shared} {H : Hp} {E : XK} (hr : Room 0 (A.deeper (envOfC "_law_sided" (defScope s__law_sided) s.heap.objs.size f cdv))) :
    PSs (cxOf (L2.CX P w) P w K mg base ["rows", "sides", "row"] "_law_sided" (defScope s__law_sided) f cdv A outer s H E) (defBody s__law_sided) (r__law_sided K (fun cls d _ H => E cls d H)) :=
  have tk0 := takes_of (X := cxOf (L2.CX P w) P w K mg base ["rows", "sides", "row"] "_law_sided" (defScope s__law_sided) f cdv A outer s H E) (E := E) rfl rfl rfl rfl
  (pss_one (ps_ret (pe_lc (own := [("row", 2)]) (g := (gName 2)) (tt := tYes) (te := (tTup (tCons (tOp (rIxA K) (tVar 2) (tC (.int 0))) (tCons (tOp (rIxA K) (tVar 2) (tC (.int 1))) (tCons (tOp (rIxA K) (tVar 2) (tC (.int 2))) (tCons (tOp (rIxA K) (tVar 1) (tC (.int 0))) (tCons (tOp (rIxA K) (tVar 1) (tC (.int 1))) tNil))))))) (by rfl) sc__law_sided.nd (pi_sq (pv 0)) (blkOk_by (N := ["rows", "sides", "row"]) (sc := defScope s__law_sided) (by decide +kernel)) (fun _ _ _ _ _ => (pg_name (i := 2) sc__law_sided.nd rfl (.inl rfl))) (fun _ _ _ _ _ => pts_nil) (fun _ _ _ _ _ => (pe_tup (pa_cons (pe_ix (ix_A (hr).units) (pv 2) pe_int (fun _ _ => rfl)) (pa_cons (pe_ix (ix_A (hr).units) (pv 2) pe_int (fun _ _ => rfl)) (pa_cons (pe_ix (ix_A (hr).units) (pv 2) pe_int (fun _ _ => rfl)) (pa_cons (pe_ix (ix_A (hr).units) (pv 1) pe_int (fun _ _ => rfl)) (pa_cons (pe_ix (ix_A (hr).units) (pv 1) pe_int (fun _ _ => rfl)) pa_nil))))))))))
theorem d__law_own (T : Tx K mg) (C__law_at : Cal P w K mg base 1 "_law_at" ["name", "moment"] (c__law_at K))  {f : Addr} {cdv : Value} {A : Around} {outer : List Env} {s : Shared} {H : Hp} {E : XK} (hr : Room 1 (A.deeper (envOfC "_law_own" (defScope s__law_own) s.heap.objs.size f cdv))) :
    PSs (cxOf (L2.CX P w) P w K mg base ["kind", "names", "first", "last", "numbers", "rows", "a", "b", "low", "high", "many", "t"] "_law_own" (defScope s__law_own) f cdv A outer s H E) (defBody s__law_own) (r__law_own K (fun cls d _ H => E cls d H)) :=
  have tk0 := takes_of (X := cxOf (L2.CX P w) P w K mg base ["kind", "names", "first", "last", "numbers", "rows", "a", "b", "low", "high", "many", "t"] "_law_own" (defScope s__law_own) f cdv A outer s H E) (E := E) rfl rfl rfl rfl
  (pss_cons (ps_set (i := 5) sc__law_own.nd rfl (.inl rfl) (pe_lst pa_nil))
  (pss_cons (ps_par (i := 6) (j := 7) (by rfl) sc__law_own.nd rfl rfl (by decide) rfl rfl (pa_cons (pe_ix (ix_A (hr).units) (pv 1) pe_int (fun _ _ => rfl)) (pa_cons (pe_ix (ix_A (hr).units) (pv 1) pe_int (fun _ _ => rfl)) pa_nil)) (by rfl))
  (pss_cons (ps_par3 (i := 8) (j := 9) (l := 10) (by rfl) sc__law_own.nd rfl rfl rfl (by decide) (by decide) (by decide) rfl rfl rfl (pa_cons (pe_ix (ix_A (hr).units) (pv 4) pe_int (fun _ _ => rfl)) (pa_cons (pe_ix (ix_A (hr).units) (pv 4) pe_int (fun _ _ => rfl)) (pa_cons (pe_ix (ix_A (hr).units) (pv 4) pe_int (fun _ _ => rfl)) pa_nil))) (by rfl))
  (pss_cons (ps_for (passes_of rfl) rfl (pi_range2 (by rfl) T.b_range (pa_cons (pv 2) (pa_cons (pe_op op_addA (pv 3) pe_int) pa_nil))) (pg_name (i := 11) sc__law_own.nd rfl (.inl rfl)) (pss_cons (ps_if (PW.pt (pw_and (pt_cmpR (op_eqP (hr).units) (pv 0) pe_int (nomark _)) (pw_and1 (pt_cmpR op_isNotA (pv 8) pe_non (nomark _))))) (pss_one (ps_expr (pe_bm PySem.F.plainAttrs_list PySem.F.slot_list_append PySem.F.type_list_append mt_append (pv 5) (pa_cons (pe_tup (pa_cons (pe_cal C__law_at hr (by decide) (by rfl) tk0 (pa_cons (pv 7) (pa_cons (pv 11) pa_nil))) (pa_cons (pe_cal C__law_at hr (by decide) (by rfl) tk0 (pa_cons (pv 6) (pa_cons (pv 11) pa_nil))) (pa_cons (pe_un un_negA (pv 8)) pa_nil)))) pa_nil)))) pss_nil)
  (pss_cons (ps_if (PW.pt (pw_and (pt_cmpR (op_eqP (hr).units) (pv 0) pe_int (nomark _)) (pw_and1 (pt_cmpR op_isNotA (pv 9) pe_non (nomark _))))) (pss_one (ps_expr (pe_bm PySem.F.plainAttrs_list PySem.F.slot_list_append PySem.F.type_list_append mt_append (pv 5) (pa_cons (pe_tup (pa_cons (pe_cal C__law_at hr (by decide) (by rfl) tk0 (pa_cons (pv 6) (pa_cons (pv 11) pa_nil))) (pa_cons (pe_cal C__law_at hr (by decide) (by rfl) tk0 (pa_cons (pv 7) (pa_cons (pv 11) pa_nil))) (pa_cons (pv 9) pa_nil)))) pa_nil)))) pss_nil)
  (pss_cons (ps_if (pt_cmpR (op_eqP (hr).units) (pv 0) pe_int (nomark _)) (pss_one (ps_expr (pe_bm PySem.F.plainAttrs_list PySem.F.slot_list_append PySem.F.type_list_append mt_append (pv 5) (pa_cons (pe_tup (pa_cons (pe_cal C__law_at hr (by decide) (by rfl) tk0 (pa_cons (pv 6) (pa_cons (pv 11) pa_nil))) (pa_cons (pe_ifExp (pt_cmpR op_geA (pe_op op_subA (pv 11) (pv 10)) (pv 2) (nomark _)) (pe_cal C__law_at hr (by decide) (by rfl) tk0 (pa_cons (pv 7) (pa_cons (pe_op op_subA (pv 11) (pv 10)) pa_nil))) pe_non) (pa_cons pe_int pa_nil)))) pa_nil)))) pss_nil)
  (pss_cons (ps_if (PW.pt (pw_and (pt_cmpR (op_eqP (hr).units) (pv 0) pe_int (nomark _)) (pw_and1 (pt_cmpR op_leA (pe_op op_addA (pv 11) (pv 10)) (pv 3) (nomark _))))) (pss_one (ps_expr (pe_bm PySem.F.plainAttrs_list PySem.F.slot_list_append PySem.F.type_list_append mt_append (pv 5) (pa_cons (pe_tup (pa_cons (pe_cal C__law_at hr (by decide) (by rfl) tk0 (pa_cons (pv 6) (pa_cons (pv 11) pa_nil))) (pa_cons (pe_cal C__law_at hr (by decide) (by rfl) tk0 (pa_cons (pv 7) (pa_cons (pe_op op_addA (pv 11) (pv 10)) pa_nil))) (pa_cons pe_int pa_nil)))) pa_nil)))) pss_nil)
  (pss_cons (ps_if (PW.pt (pw_and (pt_cmpR (op_eqP (hr).units) (pv 0) pe_int (nomark _)) (pw_and1 (pt_cmpR (op_eqP (hr).units) (pv 11) (pv 3) (nomark _))))) (pss_one (ps_expr (pe_bm PySem.F.plainAttrs_list PySem.F.slot_list_append PySem.F.type_list_append mt_append (pv 5) (pa_cons (pe_tup (pa_cons pe_non (pa_cons (pe_cal C__law_at hr (by decide) (by rfl) tk0 (pa_cons (pv 6) (pa_cons (pv 11) pa_nil))) (pa_cons (pe_un un_negA (pv 10)) pa_nil)))) pa_nil)))) pss_nil)
  (pss_cons (ps_if (pt_cmpR (op_eqP (hr).units) (pv 0) pe_int (nomark _)) (pss_one (ps_expr (pe_bm PySem.F.plainAttrs_list PySem.F.slot_list_append PySem.F.type_list_append mt_append (pv 5) (pa_cons (pe_tup (pa_cons (pe_cal C__law_at hr (by decide) (by rfl) tk0 (pa_cons (pv 7) (pa_cons (pv 11) pa_nil))) (pa_cons (pe_cal C__law_at hr (by decide) (by rfl) tk0 (pa_cons (pv 6) (pa_cons (pv 11) pa_nil))) (pa_cons (pe_op op_subA (pe_un un_negA (pv 8)) (pv 10)) pa_nil)))) pa_nil)))) pss_nil)
  (pss_one (ps_if (pt_cmpR (op_eqP (hr).units) (pv 0) pe_int (nomark _)) (pss_one (ps_expr (pe_bm PySem.F.plainAttrs_list PySem.F.slot_list_append PySem.F.type_list_append mt_append (pv 5) (pa_cons (pe_tup (pa_cons (pe_cal C__law_at hr (by decide) (by rfl) tk0 (pa_cons (pv 6) (pa_cons (pv 11) pa_nil))) (pa_cons (pe_cal C__law_at hr (by decide) (by rfl) tk0 (pa_cons (pv 7) (pa_cons (pv 11) pa_nil))) (pa_cons (pv 10) pa_nil)))) pa_nil)))) pss_nil)))))))))
  (pss_one (ps_ret (pv 5)))))))
theorem d__law_meaning (T : Tx K mg) (C__law_at : Cal P w K mg base 1 "_law_at" ["name", "moment"] (c__law_at K))  {f : Addr} {cdv : Value} {A : Around} {outer : List Env} {s : Shared} {H : Hp} {E : XK} (hr : Room 1 (A.deeper (envOfC "_law_meaning" (defScope s__law_meaning) s.heap.objs.size f cdv))) :
    PSs (cxOf (L2.CX P w) P w K mg base ["kind", "names", "first", "last", "numbers", "values", "a", "b", "low", "high", "many", "t", "held"] "_law_meaning" (defScope s__law_meaning) f cdv A outer s H E) (defBody s__law_meaning) (r__law_meaning K (fun cls d _ H => E cls d H)) :=
  have tk0 := takes_of (X := cxOf (L2.CX P w) P w K mg base ["kind", "names", "first", "last", "numbers", "values", "a", "b", "low", "high", "many", "t", "held"] "_law_meaning" (defScope s__law_meaning) f cdv A outer s H E) (E := E) rfl rfl rfl rfl
  (pss_cons (ps_setLc (i := 6) (own := [("t", 11)]) (g := (gName 11)) (tt := tYes) (te := (tOp (rIxA K) (tVar 5) (tCallS (SpC (c__law_at K)) (WE W0) (tCons (tOp (rIxA K) (tVar 1) (tC (.int 0))) (tCons (tVar 11) tNil))))) (by rfl) sc__law_meaning.nd rfl rfl (sw_true rfl rfl rfl (by decide +kernel)) (pi_range2 (by rfl) T.b_range (pa_cons (pv 2) (pa_cons (pe_op op_addA (pv 3) pe_int) pa_nil))) (blkOk_by (N := ["kind", "names", "first", "last", "numbers", "values", "a", "b", "low", "high", "many", "t", "held"]) (sc := defScope s__law_meaning) (by decide +kernel)) (fun _ _ _ _ _ => (pg_name (i := 11) sc__law_meaning.nd rfl (.inl rfl))) (fun _ _ _ _ _ => pts_nil) (fun _ _ _ _ _ => (pe_ix (ix_A (hr).units) (pv 5) (pe_cal C__law_at hr (by decide) (by rfl) takes0 (pa_cons (pe_ix (ix_A (hr).units) (pv 1) pe_int (fun _ _ => rfl)) (pa_cons (pv 11) pa_nil))) (fun _ _ => rfl))))
  (pss_cons (ps_setLc (i := 7) (own := [("t", 11)]) (g := (gName 11)) (tt := tYes) (te := (tOp (rIxA K) (tVar 5) (tCallS (SpC (c__law_at K)) (WE W0) (tCons (tOp (rIxA K) (tVar 1) (tC (.int 1))) (tCons (tVar 11) tNil))))) (by rfl) sc__law_meaning.nd rfl rfl (sw_true rfl rfl rfl (by decide +kernel)) (pi_range2 (by rfl) T.b_range (pa_cons (pv 2) (pa_cons (pe_op op_addA (pv 3) pe_int) pa_nil))) (blkOk_by (N := ["kind", "names", "first", "last", "numbers", "values", "a", "b", "low", "high", "many", "t", "held"]) (sc := defScope s__law_meaning) (by decide +kernel)) (fun _ _ _ _ _ => (pg_name (i := 11) sc__law_meaning.nd rfl (.inl rfl))) (fun _ _ _ _ _ => pts_nil) (fun _ _ _ _ _ => (pe_ix (ix_A (hr).units) (pv 5) (pe_cal C__law_at hr (by decide) (by rfl) takes0 (pa_cons (pe_ix (ix_A (hr).units) (pv 1) pe_int (fun _ _ => rfl)) (pa_cons (pv 11) pa_nil))) (fun _ _ => rfl))))
  (pss_cons (ps_par3 (i := 8) (j := 9) (l := 10) (by rfl) sc__law_meaning.nd rfl rfl rfl (by decide) (by decide) (by decide) rfl rfl rfl (pa_cons (pe_ix (ix_A (hr).units) (pv 4) pe_int (fun _ _ => rfl)) (pa_cons (pe_ix (ix_A (hr).units) (pv 4) pe_int (fun _ _ => rfl)) (pa_cons (pe_ix (ix_A (hr).units) (pv 4) pe_int (fun _ _ => rfl)) pa_nil))) (by rfl))
  (pss_cons (ps_for (passes_of rfl) rfl (pi_range1 (by rfl) T.b_range (pa_cons (pe_callB cr_lenA (by rfl) T.b_len (by decide +kernel) (pa_cons (pv 6) pa_nil)) pa_nil)) (pg_name (i := 11) sc__law_meaning.nd rfl (.inl rfl)) (pss_cons (ps_set (i := 12) sc__law_meaning.nd rfl (.inl rfl) (pe_op op_subA (pe_ix (ix_A (hr).units) (pv 6) (pv 11) (fun _ _ => rfl)) (pe_ix (ix_A (hr).units) (pv 7) (pv 11) (fun _ _ => rfl))))
  (pss_cons (ps_if (PW.pt (pw_and (pt_cmpR (op_eqP (hr).units) (pv 0) pe_int (nomark _)) (pw_and1 (PW.pt (pw_or (PW.pt (pw_and (pt_cmpR op_isNotA (pv 8) pe_non (nomark _)) (pw_and1 (pt_cmpR op_ltA (pv 12) (pv 8) (nomark _))))) (pw_or1 (PW.pt (pw_and (pt_cmpR op_isNotA (pv 9) pe_non (nomark _)) (pw_and1 (pt_cmpR op_gtA (pv 12) (pv 9) (nomark _))))))))))) (pss_one (ps_ret pe_bl)) pss_nil)
  (pss_cons (ps_if (PW.pt (pw_and (pt_cmpR (op_eqP (hr).units) (pv 0) pe_int (nomark _)) (pw_and1 (pt_cmpR op_gtA (pe_ix (ix_A (hr).units) (pv 6) (pv 11) (fun _ _ => rfl)) (pe_ifExp (pt_cmpR op_geA (pv 11) (pv 10) (nomark _)) (pe_ix (ix_A (hr).units) (pv 7) (pe_op op_subA (pv 11) (pv 10)) (fun _ _ => rfl)) pe_int) (nomark _))))) (pss_one (ps_ret pe_bl)) pss_nil)
  (pss_cons (ps_if (PW.pt (pw_and (pt_cmpR (op_eqP (hr).units) (pv 0) pe_int (nomark _)) (pw_and (pt_cmpR op_ltA (pe_op op_addA (pv 11) (pv 10)) (pe_callB cr_lenA (by rfl) T.b_len (by decide +kernel) (pa_cons (pv 6) pa_nil)) (nomark _)) (pw_and1 (pt_cmpR op_ltA (pe_ix (ix_A (hr).units) (pv 7) (pe_op op_addA (pv 11) (pv 10)) (fun _ _ => rfl)) (pe_ix (ix_A (hr).units) (pv 6) (pv 11) (fun _ _ => rfl)) (nomark _)))))) (pss_one (ps_ret pe_bl)) pss_nil)
  (pss_cons (ps_if (PW.pt (pw_and (pt_cmpR (op_eqP (hr).units) (pv 0) pe_int (nomark _)) (pw_and1 (pt_cmpR op_ltA (pe_op op_subA (pv 12) (pv 10)) (pv 8) (nomark _))))) (pss_one (ps_ret pe_bl)) pss_nil)
  (pss_one (ps_if (PW.pt (pw_and (pt_cmpR (op_eqP (hr).units) (pv 0) pe_int (nomark _)) (pw_and1 (pt_cmpR op_gtA (pv 12) (pv 10) (nomark _))))) (pss_one (ps_ret pe_bl)) pss_nil))))))))
  (pss_one (ps_ret (pe_or (pe_cmpR (op_neP (hr).units) (pv 0) pe_int (nomark _)) (pe_one (pe_cmpR op_geA (pe_ix (ix_A (hr).units) (pv 6) (pe_op op_subA (pe_callB cr_lenA (by rfl) T.b_len (by decide +kernel) (pa_cons (pv 6) pa_nil)) pe_int) (fun _ _ => rfl)) (pv 10) (nomark _))))))))))
theorem d__law_call (T : Tx K mg) (C_after_rows : Cal P w K mg base 5 "after_rows" ["later", "earlier", "first", "last", "wait", "yes", "no"] (c_after_rows K)) (C_due_rows : Cal P w K mg base 5 "due_rows" ["name", "moment", "many", "yes", "no"] (c_due_rows K)) (C_line_rows : Cal P w K mg base 5 "line_rows" ["name", "helper", "first", "last", "least", "most", "slow", "fast"] (c_line_rows K)) (C_loss_rows : Cal P w K mg base 5 "loss_rows" ["over", "under", "first", "last", "low", "many", "yes"] (c_loss_rows K)) (C_road_letters : Cal P w K mg base 5 "road_letters" ["sender", "receiver", "first", "last", "lag"] (c_road_letters K)) (C_stock_rows : Cal P w K mg base 5 "stock_rows" ["over", "under", "first", "last", "low", "high", "yes", "no"] (c_stock_rows K)) (C_turn_rows : Cal P w K mg base 5 "turn_rows" ["user", "giver", "first", "last", "own", "yes", "no"] (c_turn_rows K)) (C_watch_sights : Cal P w K mg base 5 "watch_sights" ["mishap", "helper", "first", "last"] (c_watch_sights K)) (C_within_rows : Cal P w K mg base 5 "within_rows" ["earlier", "later", "first", "last", "stay", "yes", "no"] (c_within_rows K))  {f : Addr} {cdv : Value} {A : Around} {outer : List Env} {s : Shared} {H : Hp} {E : XK} (hr : Room 5 (A.deeper (envOfC "_law_call" (defScope s__law_call) s.heap.objs.size f cdv))) :
    PSs (cxOf (L2.CX P w) P w K mg base ["kind", "names", "first", "last", "numbers", "sides", "a", "b"] "_law_call" (defScope s__law_call) f cdv A outer s H E) (defBody s__law_call) (r__law_call K (fun cls d _ H => E cls d H)) :=
  have tk0 := takes_of (X := cxOf (L2.CX P w) P w K mg base ["kind", "names", "first", "last", "numbers", "sides", "a", "b"] "_law_call" (defScope s__law_call) f cdv A outer s H E) (E := E) rfl rfl rfl rfl
  (pss_cons (ps_par (i := 6) (j := 7) (by rfl) sc__law_call.nd rfl rfl (by decide) rfl rfl (pa_cons (pe_ix (ix_A (hr).units) (pv 1) pe_int (fun _ _ => rfl)) (pa_cons (pe_ix (ix_A (hr).units) (pv 1) pe_int (fun _ _ => rfl)) pa_nil)) (by rfl))
  (pss_cons (ps_if (pt_cmpR (op_eqP (hr).units) (pv 0) pe_int (nomark _)) (pss_one (ps_ret (pe_cal C_stock_rows hr (by decide) (by rfl) tk0 (pa_cons (pv 6) (pa_cons (pv 7) (pa_cons (pv 2) (pa_cons (pv 3) (pa_cons (pe_ix (ix_A (hr).units) (pv 4) pe_int (fun _ _ => rfl)) (pa_cons (pe_ix (ix_A (hr).units) (pv 4) pe_int (fun _ _ => rfl)) (pa_cons (pe_ix (ix_A (hr).units) (pv 5) pe_int (fun _ _ => rfl)) (pa_cons (pe_ix (ix_A (hr).units) (pv 5) pe_int (fun _ _ => rfl)) pa_nil))))))))))) pss_nil)
  (pss_cons (ps_if (pt_cmpR (op_eqP (hr).units) (pv 0) pe_int (nomark _)) (pss_one (ps_ret (pe_cal C_after_rows hr (by decide) (by rfl) tk0 (pa_cons (pv 6) (pa_cons (pv 7) (pa_cons (pv 2) (pa_cons (pv 3) (pa_cons (pe_ix (ix_A (hr).units) (pv 4) pe_int (fun _ _ => rfl)) (pa_cons (pe_ix (ix_A (hr).units) (pv 5) pe_int (fun _ _ => rfl)) (pa_cons (pe_ix (ix_A (hr).units) (pv 5) pe_int (fun _ _ => rfl)) pa_nil)))))))))) pss_nil)
  (pss_cons (ps_if (pt_cmpR (op_eqP (hr).units) (pv 0) pe_int (nomark _)) (pss_one (ps_ret (pe_cal C_within_rows hr (by decide) (by rfl) tk0 (pa_cons (pv 6) (pa_cons (pv 7) (pa_cons (pv 2) (pa_cons (pv 3) (pa_cons (pe_ix (ix_A (hr).units) (pv 4) pe_int (fun _ _ => rfl)) (pa_cons (pe_ix (ix_A (hr).units) (pv 5) pe_int (fun _ _ => rfl)) (pa_cons (pe_ix (ix_A (hr).units) (pv 5) pe_int (fun _ _ => rfl)) pa_nil)))))))))) pss_nil)
  (pss_cons (ps_if (pt_cmpR (op_eqP (hr).units) (pv 0) pe_int (nomark _)) (pss_one (ps_ret (pe_cal C_due_rows hr (by decide) (by rfl) tk0 (pa_cons (pv 6) (pa_cons (pv 3) (pa_cons (pe_ix (ix_A (hr).units) (pv 4) pe_int (fun _ _ => rfl)) (pa_cons (pe_ix (ix_A (hr).units) (pv 5) pe_int (fun _ _ => rfl)) (pa_cons (pe_ix (ix_A (hr).units) (pv 5) pe_int (fun _ _ => rfl)) pa_nil)))))))) pss_nil)
  (pss_cons (ps_if (pt_cmpR (op_eqP (hr).units) (pv 0) pe_int (nomark _)) (pss_one (ps_ret (pe_cal C_loss_rows hr (by decide) (by rfl) tk0 (pa_cons (pv 6) (pa_cons (pv 7) (pa_cons (pv 2) (pa_cons (pv 3) (pa_cons (pe_ix (ix_A (hr).units) (pv 4) pe_int (fun _ _ => rfl)) (pa_cons (pe_ix (ix_A (hr).units) (pv 4) pe_int (fun _ _ => rfl)) (pa_cons (pe_ix (ix_A (hr).units) (pv 5) pe_int (fun _ _ => rfl)) pa_nil)))))))))) pss_nil)
  (pss_cons (ps_if (pt_cmpR (op_eqP (hr).units) (pv 0) pe_int (nomark _)) (pss_one (ps_ret (pe_cal C_turn_rows hr (by decide) (by rfl) tk0 (pa_cons (pv 6) (pa_cons (pv 7) (pa_cons (pv 2) (pa_cons (pv 3) (pa_cons (pe_ix (ix_A (hr).units) (pv 4) pe_int (fun _ _ => rfl)) (pa_cons (pe_ix (ix_A (hr).units) (pv 5) pe_int (fun _ _ => rfl)) (pa_cons (pe_ix (ix_A (hr).units) (pv 5) pe_int (fun _ _ => rfl)) pa_nil)))))))))) pss_nil)
  (pss_cons (ps_if (pt_cmpR (op_eqP (hr).units) (pv 0) pe_int (nomark _)) (pss_one (ps_ret (pe_cal C_line_rows hr (by decide) (by rfl) tk0 (pa_cons (pv 6) (pa_cons (pe_ix (ix_A (hr).units) (pv 4) pe_int (fun _ _ => rfl)) (pa_cons (pv 2) (pa_cons (pv 3) (pa_cons (pe_ix (ix_A (hr).units) (pv 4) pe_int (fun _ _ => rfl)) (pa_cons (pe_ix (ix_A (hr).units) (pv 4) pe_int (fun _ _ => rfl)) (pa_cons (pe_ix (ix_A (hr).units) (pv 4) pe_int (fun _ _ => rfl)) (pa_cons (pe_ix (ix_A (hr).units) (pv 4) pe_int (fun _ _ => rfl)) pa_nil))))))))))) pss_nil)
  (pss_cons (ps_if (pt_cmpR (op_eqP (hr).units) (pv 0) pe_int (nomark _)) (pss_one (ps_ret (pe_cal C_road_letters hr (by decide) (by rfl) tk0 (pa_cons (pe_ix (ix_A (hr).units) (pv 4) pe_int (fun _ _ => rfl)) (pa_cons (pe_op op_addA (pe_ix (ix_A (hr).units) (pv 4) pe_int (fun _ _ => rfl)) pe_int) (pa_cons (pv 2) (pa_cons (pv 3) (pa_cons (pe_ix (ix_A (hr).units) (pv 4) pe_int (fun _ _ => rfl)) pa_nil)))))))) pss_nil)
  (pss_one (ps_ret (pe_cal C_watch_sights hr (by decide) (by rfl) tk0 (pa_cons (pv 6) (pa_cons (pe_ix (ix_A (hr).units) (pv 4) pe_int (fun _ _ => rfl)) (pa_cons (pv 2) (pa_cons (pv 3) pa_nil))))))))))))))))
theorem d__law_asked (T : Tx K mg) (C__law_call : Cal P w K mg base 6 "_law_call" ["kind", "names", "first", "last", "numbers", "sides"] (c__law_call K))  {f : Addr} {cdv : Value} {A : Around} {outer : List Env} {s : Shared} {H : Hp} {E : XK} (hr : Room 6 (A.deeper (envOfC "_law_asked" (defScope s__law_asked) s.heap.objs.size f cdv))) :
    PSs (cxOf (L2.CX P w) P w K mg base ["kind", "names", "first", "last", "numbers", "sides", "found", "told", "e"] "_law_asked" (defScope s__law_asked) f cdv A outer s H E) (defBody s__law_asked) (r__law_asked K (fun cls d _ H => E cls d H)) :=
  have tk0 := takes_of (X := cxOf (L2.CX P w) P w K mg base ["kind", "names", "first", "last", "numbers", "sides", "found", "told", "e"] "_law_asked" (defScope s__law_asked) f cdv A outer s H E) (E := E) rfl rfl rfl rfl
  (pss_cons (ps_set (i := 6) sc__law_asked.nd rfl (.inl rfl) pe_non)
  (pss_cons (ps_set (i := 7) sc__law_asked.nd rfl (.inl rfl) pe_non)
  (pss_cons (ps_tryA (i := 8) (tb := fun W => (tAsg (tCallS (SpC (c__law_call K)) (WE W) (tCons (tVar 0) (tCons (tVar 1) (tCons (tVar 2) (tCons (tVar 3) (tCons (tVar 4) (tCons (tVar 5) tNil))))))) (gName 6))) (l := ((Value.ref (He.ga K "BadPattern"), fun a cls d => (tAsg (tTup (tCons (tC (.str "pattern")) (tCons (tXf a cls d (He.ga K "BadPattern") "what" (tVar 8)) tNil))) (gName 7))) :: ((Value.ref (He.ga K "TooMany"), fun a cls d => (tAsg (tTup (tCons (tC (.str "many")) (tCons (tXf a cls d (He.ga K "TooMany") "what" (tVar 8)) tNil))) (gName 7))) :: []))) rfl rfl sc__law_asked.nd rfl rfl tk0 (fun W pn xe tk po => (pss_one (ps_set (i := 6) sc__law_asked.nd rfl (.inl rfl) (pe_cal C__law_call hr (by decide) (by rfl) tk (pa_cons (pv 0) (pa_cons (pv 1) (pa_cons (pv 2) (pa_cons (pv 3) (pa_cons (pv 4) (pa_cons (pv 5) pa_nil)))))))))) (ClsOk.cons ⟨by rfl, by decide, .inl T.x_BadPattern.gC⟩ (fun a oe cls d pn hz hf => (pss_one (ps_set (i := 7) sc__law_asked.nd rfl (.inl rfl) (pe_tup (pa_cons pe_str (pa_cons (pe_xf T.x_BadPattern.xf (T.x_BadPattern.no _ (by decide)) hz hf (pv 8)) pa_nil)))))) (ClsOk.cons ⟨by rfl, by decide, .inl T.x_TooMany.gC⟩ (fun a oe cls d pn hz hf => (pss_one (ps_set (i := 7) sc__law_asked.nd rfl (.inl rfl) (pe_tup (pa_cons pe_str (pa_cons (pe_xf T.x_TooMany.xf (T.x_TooMany.no _ (by decide)) hz hf (pv 8)) pa_nil)))))) ClsOk.nil)))
  (pss_one (ps_ret (pe_ifExp (pt_cmpR op_isA (pv 7) pe_non (nomark _)) (pe_tup (pa_cons pe_str (pa_cons (pv 6) pa_nil))) (pv 7)))))))
theorem d__law_gap (T : Tx K mg) (C__law_at : Cal P w K mg base 1 "_law_at" ["name", "moment"] (c__law_at K))  {f : Addr} {cdv : Value} {A : Around} {outer : List Env} {s : Shared} {H : Hp} {E : XK} (hr : Room 1 (A.deeper (envOfC "_law_gap" (defScope s__law_gap) s.heap.objs.size f cdv))) :
    PSs (cxOf (L2.CX P w) P w K mg base ["values", "names", "first", "last", "least", "gaps", "t"] "_law_gap" (defScope s__law_gap) f cdv A outer s H E) (defBody s__law_gap) (r__law_gap K (fun cls d _ H => E cls d H)) :=
  have tk0 := takes_of (X := cxOf (L2.CX P w) P w K mg base ["values", "names", "first", "last", "least", "gaps", "t"] "_law_gap" (defScope s__law_gap) f cdv A outer s H E) (E := E) rfl rfl rfl rfl
  (pss_cons (ps_setLc (i := 5) (own := [("t", 6)]) (g := (gName 6)) (tt := tYes) (te := (tOp rSubA (tOp (rIxA K) (tVar 0) (tCallS (SpC (c__law_at K)) (WE W0) (tCons (tOp (rIxA K) (tVar 1) (tC (.int 0))) (tCons (tVar 6) tNil)))) (tOp (rIxA K) (tVar 0) (tCallS (SpC (c__law_at K)) (WE W0) (tCons (tOp (rIxA K) (tVar 1) (tC (.int 1))) (tCons (tVar 6) tNil)))))) (by rfl) sc__law_gap.nd rfl rfl (sw_true rfl rfl rfl (by decide +kernel)) (pi_range2 (by rfl) T.b_range (pa_cons (pv 2) (pa_cons (pe_op op_addA (pv 3) pe_int) pa_nil))) (blkOk_by (N := ["values", "names", "first", "last", "least", "gaps", "t"]) (sc := defScope s__law_gap) (by decide +kernel)) (fun _ _ _ _ _ => (pg_name (i := 6) sc__law_gap.nd rfl (.inl rfl))) (fun _ _ _ _ _ => pts_nil) (fun _ _ _ _ _ => (pe_op op_subA (pe_ix (ix_A (hr).units) (pv 0) (pe_cal C__law_at hr (by decide) (by rfl) takes0 (pa_cons (pe_ix (ix_A (hr).units) (pv 1) pe_int (fun _ _ => rfl)) (pa_cons (pv 6) pa_nil))) (fun _ _ => rfl)) (pe_ix (ix_A (hr).units) (pv 0) (pe_cal C__law_at hr (by decide) (by rfl) takes0 (pa_cons (pe_ix (ix_A (hr).units) (pv 1) pe_int (fun _ _ => rfl)) (pa_cons (pv 6) pa_nil))) (fun _ _ => rfl)))))
  (pss_one (ps_ret (pe_ifExp (pt_val (pv 4)) (pe_callB (cr_minA rfl) (by rfl) T.b_min (by decide +kernel) (pa_cons (pv 5) pa_nil)) (pe_callB (cr_maxA rfl) (by rfl) T.b_max (by decide +kernel) (pa_cons (pv 5) pa_nil))))))
theorem d__law_numbers (T : Tx K mg) (C__law_at : Cal P w K mg base 1 "_law_at" ["name", "moment"] (c__law_at K)) (C__law_draw : Cal P w K mg base 1 "_law_draw" ["purse", "many"] (c__law_draw K)) (C__law_gap : Cal P w K mg base 2 "_law_gap" ["values", "names", "first", "last", "least"] (c__law_gap K))  {f : Addr} {cdv : Value} {A : Around} {outer : List Env} {s : Shared} {H : Hp} {E : XK} (hr : Room 2 (A.deeper (envOfC "_law_numbers" (defScope s__law_numbers) s.heap.objs.size f cdv))) :
    PSs (cxOf (L2.CX P w) P w K mg base ["purse", "kind", "names", "first", "last", "values", "kept", "low", "high", "many"] "_law_numbers" (defScope s__law_numbers) f cdv A outer s H E) (defBody s__law_numbers) (r__law_numbers K (fun cls d _ H => E cls d H)) :=
  have tk0 := takes_of (X := cxOf (L2.CX P w) P w K mg base ["purse", "kind", "names", "first", "last", "values", "kept", "low", "high", "many"] "_law_numbers" (defScope s__law_numbers) f cdv A outer s H E) (E := E) rfl rfl rfl rfl
  (pss_cons (ps_set (i := 6) sc__law_numbers.nd rfl (.inl rfl) (pe_cmpR (op_eqP (hr).units) (pe_cal C__law_draw hr (by decide) (by rfl) tk0 (pa_cons (pv 0) (pa_cons pe_int pa_nil))) pe_int (nomark _)))
  (pss_cons (ps_set (i := 7) sc__law_numbers.nd rfl (.inl rfl) (pe_op op_addA (pe_cal C__law_gap hr (by decide) (by rfl) tk0 (pa_cons (pv 5) (pa_cons (pv 2) (pa_cons (pv 3) (pa_cons (pv 4) (pa_cons pe_bl pa_nil)))))) (pe_ifExp (pt_val (pv 6)) pe_int (pe_cal C__law_draw hr (by decide) (by rfl) tk0 (pa_cons (pv 0) (pa_cons pe_int pa_nil))))))
  (pss_cons (ps_set (i := 8) sc__law_numbers.nd rfl (.inl rfl) (pe_callB (cr_maxA rfl) (by rfl) T.b_max (by decide +kernel) (pa_cons pe_int (pa_cons (pv 7) (pa_cons (pe_op op_subA (pe_cal C__law_gap hr (by decide) (by rfl) tk0 (pa_cons (pv 5) (pa_cons (pv 2) (pa_cons (pv 3) (pa_cons (pv 4) (pa_cons pe_bl pa_nil)))))) (pe_ifExp (pt_val (pv 6)) pe_int (pe_cal C__law_draw hr (by decide) (by rfl) tk0 (pa_cons (pv 0) (pa_cons pe_int pa_nil))))) pa_nil)))))
  (pss_cons (ps_set (i := 9) sc__law_numbers.nd rfl (.inl rfl) (pe_cal C__law_draw hr (by decide) (by rfl) tk0 (pa_cons (pv 0) (pa_cons pe_int pa_nil))))
  (pss_cons (ps_if (pt_cmpR (op_eqP (hr).units) (pv 1) pe_int (nomark _)) (pss_one (ps_set (i := 9) sc__law_numbers.nd rfl (.inl rfl) (pe_callB (cr_maxA rfl) (by rfl) T.b_max (by decide +kernel) (pa_cons pe_int (pa_cons (pe_op op_addA (pe_ix (ix_A (hr).units) (pv 5) (pe_cal C__law_at hr (by decide) (by rfl) tk0 (pa_cons (pe_ix (ix_A (hr).units) (pv 2) pe_int (fun _ _ => rfl)) (pa_cons (pv 4) pa_nil))) (fun _ _ => rfl)) (pe_ifExp (pt_val (pv 6)) pe_int (pe_cal C__law_draw hr (by decide) (by rfl) tk0 (pa_cons (pv 0) (pa_cons pe_int pa_nil))))) pa_nil))))) pss_nil)
  (pss_cons (ps_if (PW.pt (pw_and (pt_cmpR (op_eqP (hr).units) (pv 1) pe_int (nomark _)) (pw_and1 (pt_val (pv 6))))) (pss_one (ps_set (i := 7) sc__law_numbers.nd rfl (.inl rfl) (pe_op op_subA (pv 7) (pv 9)))) pss_nil)
  (pss_cons (ps_if (PW.pt (pw_and (pt_cmpR (op_eqP (hr).units) (pv 1) pe_int (nomark _)) (pw_and1 (pt_val (pv 6))))) (pss_one (ps_set (i := 9) sc__law_numbers.nd rfl (.inl rfl) (pv 8))) pss_nil)
  (pss_cons (ps_if (PW.pt (pw_and (pt_cmpR (op_eqP (hr).units) (pv 1) pe_int (nomark _)) (pw_and1 (pt_cmpR (op_eqP (hr).units) (pe_cal C__law_draw hr (by decide) (by rfl) tk0 (pa_cons (pv 0) (pa_cons pe_int pa_nil))) pe_int (nomark _))))) (pss_one (ps_ret (pe_lst (pa_cons pe_non (pa_cons (pv 8) (pa_cons (pv 9) (pa_cons pe_int (pa_cons pe_int (pa_cons pe_int pa_nil))))))))) pss_nil)
  (pss_cons (ps_if (PW.pt (pw_and (pt_cmpR (op_eqP (hr).units) (pv 1) pe_int (nomark _)) (pw_and1 (pt_cmpR (op_eqP (hr).units) (pe_cal C__law_draw hr (by decide) (by rfl) tk0 (pa_cons (pv 0) (pa_cons pe_int pa_nil))) pe_int (nomark _))))) (pss_one (ps_ret (pe_lst (pa_cons (pv 7) (pa_cons pe_non (pa_cons (pv 9) (pa_cons pe_int (pa_cons pe_int (pa_cons pe_int pa_nil))))))))) pss_nil)
  (pss_one (ps_ret (pe_lst (pa_cons (pv 7) (pa_cons (pv 8) (pa_cons (pv 9) (pa_cons pe_int (pa_cons pe_int (pa_cons pe_int pa_nil))))))))))))))))))
theorem d__law_counted (T : Tx K mg) (C__law_asked : Cal P w K mg base 7 "_law_asked" ["kind", "names", "first", "last", "numbers", "sides"] (c__law_asked K)) (C__law_at : Cal P w K mg base 1 "_law_at" ["name", "moment"] (c__law_at K)) (C__law_counts : Cal P w K mg base 2 "_law_counts" ["purse", "names", "first", "last", "step"] (c__law_counts K)) (C__law_draw : Cal P w K mg base 1 "_law_draw" ["purse", "many"] (c__law_draw K)) (C__law_keeps : Cal P w K mg base 1 "_law_keeps" ["rows", "values"] (c__law_keeps K)) (C__law_meaning : Cal P w K mg base 2 "_law_meaning" ["kind", "names", "first", "last", "numbers", "values"] (c__law_meaning K)) (C__law_numbers : Cal P w K mg base 3 "_law_numbers" ["purse", "kind", "names", "first", "last", "values"] (c__law_numbers K)) (C__law_own : Cal P w K mg base 2 "_law_own" ["kind", "names", "first", "last", "numbers"] (c__law_own K)) (C__law_sided : Cal P w K mg base 1 "_law_sided" ["rows", "sides"] (c__law_sided K)) (C__law_sides : Cal P w K mg base 2 "_law_sides" ["purse", "mishaps"] (c__law_sides K)) (C__law_span : Cal P w K mg base 2 "_law_span" ["purse"] (c__law_span K)) (C__law_words : Cal P w K mg base 3 "_law_words" ["purse", "many"] (c__law_words K))  {f : Addr} {cdv : Value} {A : Around} {outer : List Env} {s : Shared} {H : Hp} {E : XK} (hr : Room 7 (A.deeper (envOfC "_law_counted" (defScope s__law_counted) s.heap.objs.size f cdv))) :
    PSs (cxOf (L2.CX P w) P w K mg base ["purse", "kind", "names", "first", "last", "sides", "values", "t", "numbers", "handed", "told", "due", "row", "meant"] "_law_counted" (defScope s__law_counted) f cdv A outer s H E) (defBody s__law_counted) (r__law_counted K (fun cls d _ H => E cls d H)) :=
  have tk0 := takes_of (X := cxOf (L2.CX P w) P w K mg base ["purse", "kind", "names", "first", "last", "sides", "values", "t", "numbers", "handed", "told", "due", "row", "meant"] "_law_counted" (defScope s__law_counted) f cdv A outer s H E) (E := E) rfl rfl rfl rfl
  (pss_cons (ps_set (i := 2) sc__law_counted.nd rfl (.inl rfl) (pe_cal C__law_words hr (by decide) (by rfl) tk0 (pa_cons (pv 0) (pa_cons pe_int pa_nil))))
  (pss_cons (ps_set (i := 2) sc__law_counted.nd rfl (.inl rfl) (pe_lst (pa_cons (pe_op op_addA (pe_slice sl_A (pe_ix (ix_A (hr).units) (pv 2) pe_int (fun _ _ => rfl)) po_none (po_some pe_int)) pe_str) (pa_cons (pe_op op_addA (pe_slice sl_A (pe_ix (ix_A (hr).units) (pv 2) pe_int (fun _ _ => rfl)) po_none (po_some pe_int)) pe_str) pa_nil))))
  (pss_cons (ps_asg (pe_cal C__law_span hr (by decide) (by rfl) tk0 (pa_cons (pv 0) pa_nil)) (pg_un (by rfl) (pgs_cons (pg_name (i := 3) sc__law_counted.nd rfl (.inl rfl)) (pgs_cons (pg_name (i := 4) sc__law_counted.nd rfl (.inl rfl)) pgs_nil))))
  (pss_cons (ps_set (i := 5) sc__law_counted.nd rfl (.inl rfl) (pe_cal C__law_sides hr (by decide) (by rfl) tk0 (pa_cons (pv 0) (pa_cons (pe_lst (pa_cons pe_str (pa_cons pe_str (pa_cons pe_str pa_nil)))) pa_nil))))
  (pss_cons (ps_set (i := 6) sc__law_counted.nd rfl (.inl rfl) (pe_cal C__law_counts hr (by decide) (by rfl) tk0 (pa_cons (pv 0) (pa_cons (pv 2) (pa_cons (pv 3) (pa_cons (pv 4) (pa_cons pe_int pa_nil)))))))
  (pss_cons (ps_if (PW.pt (pw_and (pt_cmpR (op_inA (hr).units) (pv 1) (pe_lst (pa_cons pe_int (pa_cons pe_int pa_nil))) (by rfl)) (pw_and1 (pt_cmpR (op_eqP (hr).units) (pe_cal C__law_draw hr (by decide) (by rfl) tk0 (pa_cons (pv 0) (pa_cons pe_int pa_nil))) pe_int (nomark _))))) (pss_one (ps_for (passes_of rfl) rfl (pi_range2 (by rfl) T.b_range (pa_cons (pv 3) (pa_cons (pe_op op_addA (pv 4) pe_int) pa_nil))) (pg_name (i := 7) sc__law_counted.nd rfl (.inl rfl)) (pss_cons (ps_if (PW.pt (pw_and (pt_cmpR (op_eqP (hr).units) (pv 1) pe_int (nomark _)) (pw_and1 (pt_cmpR op_ltA (pv 7) (pe_op op_addA (pv 3) pe_int) (nomark _))))) (pss_one (ps_dput (hu_of hr) (pv 6) (pe_cal C__law_at hr (by decide) (by rfl) tk0 (pa_cons (pe_ix (ix_A (hr).units) (pv 2) pe_int (fun _ _ => rfl)) (pa_cons (pv 7) pa_nil))) pe_int rfl)) pss_nil)
  (pss_one (ps_dput (hu_of hr) (pv 6) (pe_cal C__law_at hr (by decide) (by rfl) tk0 (pa_cons (pe_ix (ix_A (hr).units) (pv 2) pe_int (fun _ _ => rfl)) (pa_cons (pv 7) pa_nil))) (pe_op op_addA (pe_ix (ix_A (hr).units) (pv 6) (pe_cal C__law_at hr (by decide) (by rfl) tk0 (pa_cons (pe_ix (ix_A (hr).units) (pv 2) pe_int (fun _ _ => rfl)) (pa_cons (pv 7) pa_nil))) (fun _ _ => rfl)) pe_int) rfl))))) pss_nil)
  (pss_cons (ps_set (i := 8) sc__law_counted.nd rfl (.inl rfl) (pe_cal C__law_numbers hr (by decide) (by rfl) tk0 (pa_cons (pv 0) (pa_cons (pv 1) (pa_cons (pv 2) (pa_cons (pv 3) (pa_cons (pv 4) (pa_cons (pv 6) pa_nil))))))))
  (pss_cons (ps_set (i := 9) sc__law_counted.nd rfl (.inl rfl) (pe_lst (pa_cons (pe_callTy cr_listA (by rfl) T.b_list (by decide +kernel) (pa_cons (pe_ix (ix_A (hr).units) (pv 5) pe_int (fun _ _ => rfl)) pa_nil)) (pa_cons (pe_callTy cr_listA (by rfl) T.b_list (by decide +kernel) (pa_cons (pe_ix (ix_A (hr).units) (pv 5) pe_int (fun _ _ => rfl)) pa_nil)) pa_nil))))
  (pss_cons (ps_set (i := 10) sc__law_counted.nd rfl (.inl rfl) (pe_cal C__law_asked hr (by decide) (by rfl) tk0 (pa_cons (pv 1) (pa_cons (pv 2) (pa_cons (pv 3) (pa_cons (pv 4) (pa_cons (pv 8) (pa_cons (pv 9) pa_nil))))))))
  (pss_cons (ps_set (i := 11) sc__law_counted.nd rfl (.inl rfl) (pe_cal C__law_sided hr (by decide) (by rfl) tk0 (pa_cons (pe_cal C__law_own hr (by decide) (by rfl) tk0 (pa_cons (pv 1) (pa_cons (pv 2) (pa_cons (pv 3) (pa_cons (pv 4) (pa_cons (pv 8) pa_nil)))))) (pa_cons (pe_lst (pa_cons (pe_ix (ix_A (hr).units) (pv 5) pe_int (fun _ _ => rfl)) (pa_cons (pe_ifExp (pt_cmpR (op_eqP (hr).units) (pv 1) pe_int (nomark _)) (pe_lst pa_nil) (pe_ix (ix_A (hr).units) (pv 5) pe_int (fun _ _ => rfl))) pa_nil))) pa_nil))))
  (pss_cons (ps_if (PW.pt (pw_or (pt_cmpR (op_neP (hr).units) (pv 10) (pe_tup (pa_cons pe_str (pa_cons (pv 11) pa_nil))) (nomark _)) (pw_or (pt_cmpR (op_neP (hr).units) (pv 9) (pv 5) (nomark _)) (pw_or1 (pt_not (pt_val (pe_callB call_isi (by rfl) T.b_isinstance (by decide +kernel) (pa_cons (pe_ix (ix_A (hr).units) (pv 10) pe_int (fun _ _ => rfl)) (pa_cons (pe_bltn (by rfl) T.b_list (by decide +kernel) rfl) pa_nil))))))))) (pss_one (ps_ret pe_bl)) pss_nil)
  (pss_cons (ps_for (passes_of rfl) rfl (pi_sq (pe_ix (ix_A (hr).units) (pv 10) pe_int (fun _ _ => rfl))) (pg_name (i := 12) sc__law_counted.nd rfl (.inl rfl)) (pss_one (ps_if (pt_not (pt_val (pe_callB call_isi (by rfl) T.b_isinstance (by decide +kernel) (pa_cons (pv 12) (pa_cons (pe_bltn (by rfl) T.b_tuple (by decide +kernel) rfl) pa_nil))))) (pss_one (ps_ret pe_bl)) pss_nil)))
  (pss_cons (ps_set (i := 13) sc__law_counted.nd rfl (.inl rfl) (pe_cal C__law_meaning hr (by decide) (by rfl) tk0 (pa_cons (pv 1) (pa_cons (pv 2) (pa_cons (pv 3) (pa_cons (pv 4) (pa_cons (pv 8) (pa_cons (pv 6) pa_nil))))))))
  (pss_cons (ps_if (pt_cmpR (op_neP (hr).units) (pe_cal C__law_keeps hr (by decide) (by rfl) tk0 (pa_cons (pe_ix (ix_A (hr).units) (pv 10) pe_int (fun _ _ => rfl)) (pa_cons (pv 6) pa_nil))) (pv 13) (nomark _)) (pss_one (ps_ret pe_bl)) pss_nil)
  (pss_cons (ps_for (passes_of rfl) rfl (pi_sq (pe_ix (ix_A (hr).units) (pv 10) pe_int (fun _ _ => rfl))) (pg_name (i := 12) sc__law_counted.nd rfl (.inl rfl)) (pss_cons (ps_expr (pe_bm PySem.F.plainAttrs_list PySem.F.slot_list_append PySem.F.type_list_append mt_append (pe_ix (ix_A (hr).units) (pv 12) pe_int (fun _ _ => rfl)) (pa_cons pe_str pa_nil)))
  (pss_one (ps_expr (pe_bm PySem.F.plainAttrs_list PySem.F.slot_list_append PySem.F.type_list_append mt_append (pe_ix (ix_A (hr).units) (pv 12) pe_int (fun _ _ => rfl)) (pa_cons pe_str pa_nil))))))
  (pss_one (ps_ret (pe_and (pe_cmpR (op_eqP (hr).units) (pv 9) (pv 5) (nomark _)) (pe_one (pe_cmpR (op_eqP (hr).units) (pe_cal C__law_asked hr (by decide) (by rfl) tk0 (pa_cons (pv 1) (pa_cons (pv 2) (pa_cons (pv 3) (pa_cons (pv 4) (pa_cons (pv 8) (pa_cons (pv 9) pa_nil))))))) (pe_tup (pa_cons pe_str (pa_cons (pv 11) pa_nil))) (nomark _)))))))))))))))))))))
theorem d__law_lined (T : Tx K mg) (C__law_asked : Cal P w K mg base 7 "_law_asked" ["kind", "names", "first", "last", "numbers", "sides"] (c__law_asked K)) (C__law_at : Cal P w K mg base 1 "_law_at" ["name", "moment"] (c__law_at K)) (C__law_draw : Cal P w K mg base 1 "_law_draw" ["purse", "many"] (c__law_draw K)) (C__law_keeps : Cal P w K mg base 1 "_law_keeps" ["rows", "values"] (c__law_keeps K)) (C__law_number : Cal P w K mg base 2 "_law_number" ["purse", "small"] (c__law_number K)) (C__law_span : Cal P w K mg base 2 "_law_span" ["purse"] (c__law_span K)) (C__law_word : Cal P w K mg base 2 "_law_word" ["purse", "taken"] (c__law_word K))  {f : Addr} {cdv : Value} {A : Around} {outer : List Env} {s : Shared} {H : Hp} {E : XK} (hr : Room 7 (A.deeper (envOfC "_law_lined" (defScope s__law_lined) s.heap.objs.size f cdv))) :
    PSs (cxOf (L2.CX P w) P w K mg base ["purse", "name", "first", "last", "slow", "fast", "helper", "ends", "told", "rows", "rules", "t", "values", "count", "meant", "rise"] "_law_lined" (defScope s__law_lined) f cdv A outer s H E) (defBody s__law_lined) (r__law_lined K (fun cls d _ H => E cls d H)) :=
  have tk0 := takes_of (X := cxOf (L2.CX P w) P w K mg base ["purse", "name", "first", "last", "slow", "fast", "helper", "ends", "told", "rows", "rules", "t", "values", "count", "meant", "rise"] "_law_lined" (defScope s__law_lined) f cdv A outer s H E) (E := E) rfl rfl rfl rfl
  (pss_cons (ps_set (i := 1) sc__law_lined.nd rfl (.inr rfl) (pe_slice sl_A (pe_cal C__law_word hr (by decide) (by rfl) tk0 (pa_cons (pv 0) (pa_cons (pe_lst pa_nil) pa_nil))) po_none (po_some pe_int)))
  (pss_cons (ps_asg (pe_cal C__law_span hr (by decide) (by rfl) tk0 (pa_cons (pv 0) pa_nil)) (pg_un (by rfl) (pgs_cons (pg_name (i := 2) sc__law_lined.nd rfl (.inl rfl)) (pgs_cons (pg_name (i := 3) sc__law_lined.nd rfl (.inl rfl)) pgs_nil))))
  (pss_cons (ps_set (i := 4) sc__law_lined.nd rfl (.inl rfl) (pe_ix (ix_A (hr).units) (pe_lst (pa_cons pe_non (pa_cons (pe_op op_subA (pe_cal C__law_draw hr (by decide) (by rfl) tk0 (pa_cons (pv 0) (pa_cons pe_int pa_nil))) pe_int) pa_nil))) (pe_cal C__law_draw hr (by decide) (by rfl) tk0 (pa_cons (pv 0) (pa_cons pe_int pa_nil))) (fun _ _ => rfl)))
  (pss_cons (ps_set (i := 5) sc__law_lined.nd rfl (.inl rfl) (pe_ix (ix_A (hr).units) (pe_lst (pa_cons pe_non (pa_cons (pe_op op_addA pe_int (pe_cal C__law_draw hr (by decide) (by rfl) tk0 (pa_cons (pv 0) (pa_cons pe_int pa_nil)))) pa_nil))) (pe_cal C__law_draw hr (by decide) (by rfl) tk0 (pa_cons (pv 0) (pa_cons pe_int pa_nil))) (fun _ _ => rfl)))
  (pss_cons (ps_set (i := 6) sc__law_lined.nd rfl (.inr rfl) (pe_op op_addA pe_int (pe_cal C__law_draw hr (by decide) (by rfl) tk0 (pa_cons (pv 0) (pa_cons pe_int pa_nil)))))
  (pss_cons (ps_set (i := 7) sc__law_lined.nd rfl (.inr rfl) (pe_lst (pa_cons (pe_cal C__law_number hr (by decide) (by rfl) tk0 (pa_cons (pv 0) (pa_cons pe_int pa_nil))) (pa_cons (pe_cal C__law_number hr (by decide) (by rfl) tk0 (pa_cons (pv 0) (pa_cons pe_int pa_nil))) pa_nil))))
  (pss_cons (ps_set (i := 8) sc__law_lined.nd rfl (.inl rfl) (pe_cal C__law_asked hr (by decide) (by rfl) tk0 (pa_cons pe_int (pa_cons (pe_lst (pa_cons (pv 1) (pa_cons pe_str pa_nil))) (pa_cons (pv 2) (pa_cons (pv 3) (pa_cons (pe_lst (pa_cons (pv 4) (pa_cons (pv 5) (pa_cons pe_int (pa_cons (pv 6) (pa_cons (pe_ix (ix_A (hr).units) (pv 7) pe_int (fun _ _ => rfl)) (pa_cons (pe_ix (ix_A (hr).units) (pv 7) pe_int (fun _ _ => rfl)) pa_nil))))))) (pa_cons (pe_lst (pa_cons (pe_lst pa_nil) (pa_cons (pe_lst pa_nil) pa_nil))) pa_nil))))))))
  (pss_cons (ps_setLc (i := 9) (own := [("t", 11)]) (g := (gName 11)) (tt := tYes) (te := (tTup (tCons (tCallS (SpC (c__law_at K)) (WE W0) (tCons (tVar 1) (tCons (tVar 11) tNil))) (tCons (tVar 6) (tCons (tVar 11) (tCons (tOp (rIxA K) (tVar 7) (tC (.int 0))) (tCons (tOp (rIxA K) (tVar 7) (tC (.int 1))) tNil))))))) (by rfl) sc__law_lined.nd rfl rfl (sw_true rfl rfl rfl (by decide +kernel)) (pi_range2 (by rfl) T.b_range (pa_cons (pv 2) (pa_cons (pe_op op_addA (pv 3) pe_int) pa_nil))) (blkOk_by (N := ["purse", "name", "first", "last", "slow", "fast", "helper", "ends", "told", "rows", "rules", "t", "values", "count", "meant", "rise"]) (sc := defScope s__law_lined) (by decide +kernel)) (fun _ _ _ _ _ => (pg_name (i := 11) sc__law_lined.nd rfl (.inl rfl))) (fun _ _ _ _ _ => pts_nil) (fun _ _ _ _ _ => (pe_tup (pa_cons (pe_cal C__law_at hr (by decide) (by rfl) takes0 (pa_cons (pv 1) (pa_cons (pv 11) pa_nil))) (pa_cons (pv 6) (pa_cons (pv 11) (pa_cons (pe_ix (ix_A (hr).units) (pv 7) pe_int (fun _ _ => rfl)) (pa_cons (pe_ix (ix_A (hr).units) (pv 7) pe_int (fun _ _ => rfl)) pa_nil))))))))
  (pss_cons (ps_set (i := 10) sc__law_lined.nd rfl (.inl rfl) (pe_lst pa_nil))
  (pss_cons (ps_for (passes_of rfl) rfl (pi_range2 (by rfl) T.b_range (pa_cons (pe_op op_addA (pv 2) pe_int) (pa_cons (pe_op op_addA (pv 3) pe_int) pa_nil))) (pg_name (i := 11) sc__law_lined.nd rfl (.inl rfl)) (pss_cons (ps_if (pt_cmpR op_isNotA (pv 4) pe_non (nomark _)) (pss_one (ps_expr (pe_bm PySem.F.plainAttrs_list PySem.F.slot_list_append PySem.F.type_list_append mt_append (pv 10) (pa_cons (pe_tup (pa_cons (pe_cal C__law_at hr (by decide) (by rfl) tk0 (pa_cons (pv 1) (pa_cons (pe_op op_subA (pv 11) pe_int) pa_nil))) (pa_cons (pe_cal C__law_at hr (by decide) (by rfl) tk0 (pa_cons (pv 1) (pa_cons (pv 11) pa_nil))) (pa_cons (pe_un un_negA (pv 4)) (pa_cons (pe_lst pa_nil) (pa_cons (pe_lst pa_nil) pa_nil)))))) pa_nil)))) pss_nil)
  (pss_one (ps_if (pt_cmpR op_isNotA (pv 5) pe_non (nomark _)) (pss_one (ps_expr (pe_bm PySem.F.plainAttrs_list PySem.F.slot_list_append PySem.F.type_list_append mt_append (pv 10) (pa_cons (pe_tup (pa_cons (pe_cal C__law_at hr (by decide) (by rfl) tk0 (pa_cons (pv 1) (pa_cons (pv 11) pa_nil))) (pa_cons (pe_cal C__law_at hr (by decide) (by rfl) tk0 (pa_cons (pv 1) (pa_cons (pe_op op_subA (pv 11) pe_int) pa_nil))) (pa_cons (pv 5) (pa_cons (pe_lst pa_nil) (pa_cons (pe_lst pa_nil) pa_nil)))))) pa_nil)))) pss_nil))))
  (pss_cons (ps_if (pt_cmpR (op_neP (hr).units) (pv 8) (pe_tup (pa_cons pe_str (pa_cons (pe_tup (pa_cons (pv 9) (pa_cons (pv 10) pa_nil))) pa_nil))) (nomark _)) (pss_one (ps_ret pe_bl)) pss_nil)
  (pss_cons (ps_set (i := 12) sc__law_lined.nd rfl (.inl rfl) pe_dnewK)
  (pss_cons (ps_set (i := 13) sc__law_lined.nd rfl (.inl rfl) pe_int)
  (pss_cons (ps_set (i := 14) sc__law_lined.nd rfl (.inl rfl) pe_bl)
  (pss_cons (ps_for (passes_of rfl) rfl (pi_range2 (by rfl) T.b_range (pa_cons (pv 2) (pa_cons (pe_op op_addA (pv 3) pe_int) pa_nil))) (pg_name (i := 11) sc__law_lined.nd rfl (.inl rfl)) (pss_cons (ps_set (i := 15) sc__law_lined.nd rfl (.inl rfl) (pe_op op_subA (pe_cal C__law_draw hr (by decide) (by rfl) tk0 (pa_cons (pv 0) (pa_cons pe_int pa_nil))) pe_int))
  (pss_cons (ps_set (i := 13) sc__law_lined.nd rfl (.inl rfl) (pe_op op_addA (pv 13) (pv 15)))
  (pss_cons (ps_dput (hu_of hr) (pv 12) (pe_cal C__law_at hr (by decide) (by rfl) tk0 (pa_cons (pv 1) (pa_cons (pv 11) pa_nil))) (pv 13) rfl)
  (pss_one (ps_if (PW.pt (pw_and (pt_cmpR op_gtA (pv 11) (pv 2) (nomark _)) (pw_and1 (PW.pt (pw_or (PW.pt (pw_and (pt_cmpR op_isNotA (pv 4) pe_non (nomark _)) (pw_and1 (pt_cmpR op_ltA (pv 15) (pv 4) (nomark _))))) (pw_or1 (PW.pt (pw_and (pt_cmpR op_isNotA (pv 5) pe_non (nomark _)) (pw_and1 (pt_cmpR op_gtA (pv 15) (pv 5) (nomark _))))))))))) (pss_one (ps_set (i := 14) sc__law_lined.nd rfl (.inl rfl) pe_bl)) pss_nil))))))
  (pss_one (ps_ret (pe_and (pe_cmpR (op_eqP (hr).units) (pe_cal C__law_keeps hr (by decide) (by rfl) tk0 (pa_cons (pe_ix (ix_A (hr).units) (pe_ix (ix_A (hr).units) (pv 8) pe_int (fun _ _ => rfl)) pe_int (fun _ _ => rfl)) (pa_cons (pv 12) pa_nil))) (pv 14) (nomark _)) (pe_one (pe_callB call_isi (by rfl) T.b_isinstance (by decide +kernel) (pa_cons (pe_ix (ix_A (hr).units) (pv 8) pe_int (fun _ _ => rfl)) (pa_cons (pe_bltn (by rfl) T.b_tuple (by decide +kernel) rfl) pa_nil))))))))))))))))))))))
theorem d__law_sent (T : Tx K mg) (C__law_asked : Cal P w K mg base 7 "_law_asked" ["kind", "names", "first", "last", "numbers", "sides"] (c__law_asked K)) (C__law_draw : Cal P w K mg base 1 "_law_draw" ["purse", "many"] (c__law_draw K)) (C__law_span : Cal P w K mg base 2 "_law_span" ["purse"] (c__law_span K)) (C__law_word : Cal P w K mg base 2 "_law_word" ["purse", "taken"] (c__law_word K))  {f : Addr} {cdv : Value} {A : Around} {outer : List Env} {s : Shared} {H : Hp} {E : XK} (hr : Room 7 (A.deeper (envOfC "_law_sent" (defScope s__law_sent) s.heap.objs.size f cdv))) :
    PSs (cxOf (L2.CX P w) P w K mg base ["purse", "first", "last", "lag", "helper", "word", "told", "t"] "_law_sent" (defScope s__law_sent) f cdv A outer s H E) (defBody s__law_sent) (r__law_sent K (fun cls d _ H => E cls d H)) :=
  have tk0 := takes_of (X := cxOf (L2.CX P w) P w K mg base ["purse", "first", "last", "lag", "helper", "word", "told", "t"] "_law_sent" (defScope s__law_sent) f cdv A outer s H E) (E := E) rfl rfl rfl rfl
  (pss_cons (ps_asg (pe_cal C__law_span hr (by decide) (by rfl) tk0 (pa_cons (pv 0) pa_nil)) (pg_un (by rfl) (pgs_cons (pg_name (i := 1) sc__law_sent.nd rfl (.inl rfl)) (pgs_cons (pg_name (i := 2) sc__law_sent.nd rfl (.inl rfl)) pgs_nil))))
  (pss_cons (ps_set (i := 3) sc__law_sent.nd rfl (.inr rfl) (pe_op op_addA pe_int (pe_cal C__law_draw hr (by decide) (by rfl) tk0 (pa_cons (pv 0) (pa_cons pe_int pa_nil)))))
  (pss_cons (ps_set (i := 4) sc__law_sent.nd rfl (.inr rfl) (pe_op op_addA pe_int (pe_cal C__law_draw hr (by decide) (by rfl) tk0 (pa_cons (pv 0) (pa_cons pe_int pa_nil)))))
  (pss_cons (ps_set (i := 5) sc__law_sent.nd rfl (.inr rfl) (pe_cal C__law_word hr (by decide) (by rfl) tk0 (pa_cons (pv 0) (pa_cons (pe_lst pa_nil) pa_nil))))
  (pss_cons (ps_set (i := 6) sc__law_sent.nd rfl (.inl rfl) (pe_cal C__law_asked hr (by decide) (by rfl) tk0 (pa_cons pe_int (pa_cons (pe_lst (pa_cons pe_str (pa_cons pe_str pa_nil))) (pa_cons (pv 1) (pa_cons (pv 2) (pa_cons (pe_lst (pa_cons pe_int (pa_cons pe_int (pa_cons (pv 3) (pa_cons (pv 4) pa_nil))))) (pa_cons (pe_lst pa_nil) pa_nil))))))))
  (pss_cons (ps_if (pt_cmpR (op_neP (hr).units) (pv 6) (pe_tup (pa_cons pe_str (pa_cons (pe_lc (own := [("t", 7)]) (g := (gName 7)) (tt := tYes) (te := (tTup (tCons (tVar 4) (tCons (tVar 7) (tCons (tOp rAddA (tVar 4) (tC (.int 1))) (tCons (tOp rAddA (tVar 7) (tVar 3)) (tCons (tLst tNil) (tCons (tLst tNil) tNil)))))))) (by rfl) sc__law_sent.nd (pi_range2 (by rfl) T.b_range (pa_cons (pv 1) (pa_cons (pe_op op_addA (pv 2) pe_int) pa_nil))) (blkOk_by (N := ["purse", "first", "last", "lag", "helper", "word", "told", "t"]) (sc := defScope s__law_sent) (by decide +kernel)) (fun _ _ _ _ _ => (pg_name (i := 7) sc__law_sent.nd rfl (.inl rfl))) (fun _ _ _ _ _ => pts_nil) (fun _ _ _ _ _ => (pe_tup (pa_cons (pv 4) (pa_cons (pv 7) (pa_cons (pe_op op_addA (pv 4) pe_int) (pa_cons (pe_op op_addA (pv 7) (pv 3)) (pa_cons (pe_lst pa_nil) (pa_cons (pe_lst pa_nil) pa_nil))))))))) pa_nil))) (nomark _)) (pss_one (ps_ret pe_bl)) pss_nil)
  (pss_cons (ps_set (i := 6) sc__law_sent.nd rfl (.inl rfl) (pe_cal C__law_asked hr (by decide) (by rfl) tk0 (pa_cons pe_int (pa_cons (pe_lst (pa_cons (pv 5) (pa_cons pe_str pa_nil))) (pa_cons (pv 1) (pa_cons (pv 2) (pa_cons (pe_lst (pa_cons pe_int (pa_cons pe_int (pa_cons pe_int (pa_cons (pv 4) pa_nil))))) (pa_cons (pe_lst pa_nil) pa_nil))))))))
  (pss_cons (ps_if (pt_cmpR (op_neP (hr).units) (pv 6) (pe_tup (pa_cons pe_str (pa_cons (pe_lc (own := [("t", 7)]) (g := (gName 7)) (tt := tYes) (te := (tTup (tCons (tVar 5) (tCons (tVar 4) (tCons (tVar 7) (tCons (tC .non) (tCons (tC (.int 0)) tNil))))))) (by rfl) sc__law_sent.nd (pi_range2 (by rfl) T.b_range (pa_cons (pv 1) (pa_cons (pe_op op_addA (pv 2) pe_int) pa_nil))) (blkOk_by (N := ["purse", "first", "last", "lag", "helper", "word", "told", "t"]) (sc := defScope s__law_sent) (by decide +kernel)) (fun _ _ _ _ _ => (pg_name (i := 7) sc__law_sent.nd rfl (.inl rfl))) (fun _ _ _ _ _ => pts_nil) (fun _ _ _ _ _ => (pe_tup (pa_cons (pv 5) (pa_cons (pv 4) (pa_cons (pv 7) (pa_cons pe_non (pa_cons pe_int pa_nil)))))))) pa_nil))) (nomark _)) (pss_one (ps_ret pe_bl)) pss_nil)
  (pss_one (ps_ret (pe_cmpR (op_eqP (hr).units) (pe_cal C__law_asked hr (by decide) (by rfl) tk0 (pa_cons pe_int (pa_cons (pe_lst (pa_cons pe_str (pa_cons pe_str pa_nil))) (pa_cons (pv 1) (pa_cons (pv 2) (pa_cons (pe_lst (pa_cons pe_int (pa_cons pe_int (pa_cons pe_int (pa_cons (pv 4) pa_nil))))) (pa_cons (pe_lst pa_nil) pa_nil))))))) (pe_tup (pa_cons pe_str (pa_cons pe_str pa_nil))) (nomark _))))))))))))
theorem d__law_refused (T : Tx K mg) (C__law_asked : Cal P w K mg base 7 "_law_asked" ["kind", "names", "first", "last", "numbers", "sides"] (c__law_asked K)) (C__law_draw : Cal P w K mg base 1 "_law_draw" ["purse", "many"] (c__law_draw K))  {f : Addr} {cdv : Value} {A : Around} {outer : List Env} {s : Shared} {H : Hp} {E : XK} (hr : Room 7 (A.deeper (envOfC "_law_refused" (defScope s__law_refused) s.heap.objs.size f cdv))) :
    PSs (cxOf (L2.CX P w) P w K mg base ["purse", "kind", "names", "sides", "right", "odd", "long", "wrongs", "wrong", "more", "parts", "part", "far"] "_law_refused" (defScope s__law_refused) f cdv A outer s H E) (defBody s__law_refused) (r__law_refused K (fun cls d _ H => E cls d H)) :=
  have tk0 := takes_of (X := cxOf (L2.CX P w) P w K mg base ["purse", "kind", "names", "sides", "right", "odd", "long", "wrongs", "wrong", "more", "parts", "part", "far"] "_law_refused" (defScope s__law_refused) f cdv A outer s H E) (E := E) rfl rfl rfl rfl
  (pss_cons (ps_set (i := 2) sc__law_refused.nd rfl (.inl rfl) (pe_lst (pa_cons pe_str (pa_cons pe_str pa_nil))))
  (pss_cons (ps_set (i := 3) sc__law_refused.nd rfl (.inl rfl) (pe_lst (pa_cons (pe_lst pa_nil) (pa_cons (pe_lst pa_nil) pa_nil))))
  (pss_cons (ps_set (i := 4) sc__law_refused.nd rfl (.inl rfl) (pe_lst (pa_cons pe_int (pa_cons pe_int (pa_cons pe_int (pa_cons pe_int (pa_cons pe_int (pa_cons pe_int pa_nil))))))))
  (pss_cons (ps_if (pt_cmpR (op_neP (hr).units) (pe_ix (ix_A (hr).units) (pe_cal C__law_asked hr (by decide) (by rfl) tk0 (pa_cons (pv 1) (pa_cons (pv 2) (pa_cons pe_int (pa_cons pe_int (pa_cons (pv 4) (pa_cons (pv 3) pa_nil))))))) pe_int (fun _ _ => rfl)) pe_str (nomark _)) (pss_one (ps_ret pe_bl)) pss_nil)
  (pss_cons (ps_if (pt_cmpR (op_neP (hr).units) (pe_cal C__law_asked hr (by decide) (by rfl) tk0 (pa_cons (pv 1) (pa_cons (pv 2) (pa_cons pe_int (pa_cons pe_int (pa_cons (pv 4) (pa_cons (pv 3) pa_nil))))))) (pe_tup (pa_cons pe_str (pa_cons pe_str pa_nil))) (nomark _)) (pss_one (ps_ret pe_bl)) pss_nil)
  (pss_cons (ps_if (pt_cmpR (op_neP (hr).units) (pe_cal C__law_asked hr (by decide) (by rfl) tk0 (pa_cons (pv 1) (pa_cons (pe_lst (pa_cons pe_str (pa_cons pe_str pa_nil))) (pa_cons pe_int (pa_cons pe_int (pa_cons (pe_lst (pa_cons pe_int (pa_cons (pe_un un_negA pe_int) (pa_cons (pe_un un_negA pe_int) (pa_cons pe_int (pa_cons pe_int (pa_cons pe_int pa_nil))))))) (pa_cons (pv 3) pa_nil))))))) (pe_tup (pa_cons pe_str (pa_cons pe_str pa_nil))) (nomark _)) (pss_one (ps_ret pe_bl)) pss_nil)
  (pss_cons (ps_if (PW.pt (pw_and (pt_cmpR (op_neP (hr).units) (pv 1) pe_int (nomark _)) (pw_and1 (pt_cmpR (op_neP (hr).units) (pe_cal C__law_asked hr (by decide) (by rfl) tk0 (pa_cons (pv 1) (pa_cons (pe_lst (pa_cons pe_str (pa_cons pe_str pa_nil))) (pa_cons pe_int (pa_cons pe_int (pa_cons (pe_lst (pa_cons pe_int (pa_cons pe_int (pa_cons (pe_un un_negA pe_int) (pa_cons pe_int (pa_cons pe_int (pa_cons pe_int pa_nil))))))) (pa_cons (pv 3) pa_nil))))))) (pe_tup (pa_cons pe_str (pa_cons pe_str pa_nil))) (nomark _))))) (pss_one (ps_ret pe_bl)) pss_nil)
  (pss_cons (ps_if (pt_cmpR (op_neP (hr).units) (pe_cal C__law_asked hr (by decide) (by rfl) tk0 (pa_cons (pv 1) (pa_cons (pe_lst (pa_cons pe_str (pa_cons pe_str pa_nil))) (pa_cons (pe_un un_negA pe_int) (pa_cons (pe_ifExp (pt_cmpR (op_eqP (hr).units) (pv 1) pe_int (nomark _)) (pe_un un_negA pe_int) pe_int) (pa_cons (pe_lst (pa_cons pe_int (pa_cons pe_int (pa_cons (pe_un un_negA pe_int) (pa_cons pe_int (pa_cons pe_int (pa_cons pe_int pa_nil))))))) (pa_cons (pv 3) pa_nil))))))) (pe_tup (pa_cons pe_str (pa_cons pe_str pa_nil))) (nomark _)) (pss_one (ps_ret pe_bl)) pss_nil)
  (pss_cons (ps_if (pt_cmpR (op_neP (hr).units) (pv 1) pe_int (nomark _)) (pss_cons (ps_set (i := 5) sc__law_refused.nd rfl (.inl rfl) (pe_ix (ix_A (hr).units) (pe_lst (pa_cons pe_str (pa_cons pe_str (pa_cons pe_str (pa_cons pe_str (pa_cons pe_str (pa_cons pe_str pa_nil))))))) (pe_cal C__law_draw hr (by decide) (by rfl) tk0 (pa_cons (pv 0) (pa_cons pe_int pa_nil))) (fun _ _ => rfl)))
  (pss_one (ps_if (pt_cmpR (op_neP (hr).units) (pe_cal C__law_asked hr (by decide) (by rfl) tk0 (pa_cons (pv 1) (pa_cons (pe_lst (pa_cons (pv 5) (pa_cons pe_str pa_nil))) (pa_cons pe_int (pa_cons pe_int (pa_cons (pe_lst (pa_cons pe_int (pa_cons pe_int (pa_cons (pe_un un_negA pe_int) (pa_cons pe_int (pa_cons pe_int (pa_cons pe_int pa_nil))))))) (pa_cons (pv 3) pa_nil))))))) (pe_tup (pa_cons pe_str (pa_cons pe_str pa_nil))) (nomark _)) (pss_one (ps_ret pe_bl)) pss_nil))) pss_nil)
  (pss_cons (ps_if (pt_cmpR op_ltA (pv 1) pe_int (nomark _)) (pss_cons (ps_set (i := 6) sc__law_refused.nd rfl (.inl rfl) pe_str)
  (pss_cons (ps_if (pt_cmpR (op_neP (hr).units) (pe_ix (ix_A (hr).units) (pe_cal C__law_asked hr (by decide) (by rfl) tk0 (pa_cons (pv 1) (pa_cons (pe_lst (pa_cons (pv 6) (pa_cons pe_str pa_nil))) (pa_cons pe_int (pa_cons pe_int (pa_cons (pv 4) (pa_cons (pv 3) pa_nil))))))) pe_int (fun _ _ => rfl)) pe_str (nomark _)) (pss_one (ps_ret pe_bl)) pss_nil)
  (pss_one (ps_if (pt_cmpR (op_neP (hr).units) (pe_cal C__law_asked hr (by decide) (by rfl) tk0 (pa_cons (pv 1) (pa_cons (pe_lst (pa_cons (pv 6) (pa_cons pe_str pa_nil))) (pa_cons pe_int (pa_cons pe_int (pa_cons (pv 4) (pa_cons (pv 3) pa_nil))))))) (pe_tup (pa_cons pe_str (pa_cons pe_str pa_nil))) (nomark _)) (pss_one (ps_ret pe_bl)) pss_nil)))) pss_nil)
  (pss_cons (ps_if (PW.pt (pw_and (pt_cmpR (op_inA (hr).units) (pv 1) (pe_lst (pa_cons pe_int (pa_cons pe_int (pa_cons pe_int (pa_cons pe_int (pa_cons pe_int pa_nil)))))) (by rfl)) (pw_and1 (pt_cmpR (op_neP (hr).units) (pe_cal C__law_asked hr (by decide) (by rfl) tk0 (pa_cons (pv 1) (pa_cons (pe_lst (pa_cons pe_str (pa_cons pe_str pa_nil))) (pa_cons pe_int (pa_cons pe_int (pa_cons (pv 4) (pa_cons (pv 3) pa_nil))))))) (pe_tup (pa_cons pe_str (pa_cons pe_str pa_nil))) (nomark _))))) (pss_one (ps_ret pe_bl)) pss_nil)
  (pss_cons (ps_set (i := 7) sc__law_refused.nd rfl (.inl rfl) (pe_lst (pa_cons (pe_lst (pa_cons (pe_lst (pa_cons pe_int (pa_cons pe_int (pa_cons pe_int pa_nil)))) (pa_cons (pe_lst (pa_cons pe_int (pa_cons (pe_un un_negA pe_int) (pa_cons pe_int pa_nil)))) (pa_cons (pe_lst (pa_cons (pe_un un_negA pe_int) (pa_cons (pe_un un_negA pe_int) (pa_cons pe_int pa_nil)))) (pa_cons (pe_lst (pa_cons pe_non (pa_cons (pe_un un_negA pe_int) (pa_cons pe_int pa_nil)))) pa_nil))))) (pa_cons (pe_lst (pa_cons (pe_lst (pa_cons pe_int (pa_cons pe_int (pa_cons (pe_un un_negA pe_int) pa_nil)))) pa_nil)) (pa_cons (pe_lst (pa_cons (pe_lst (pa_cons pe_int (pa_cons pe_int (pa_cons (pe_un un_negA pe_int) pa_nil)))) pa_nil)) (pa_cons (pe_lst (pa_cons (pe_lst (pa_cons pe_int (pa_cons pe_int (pa_cons (pe_un un_negA pe_int) pa_nil)))) pa_nil)) (pa_cons (pe_lst (pa_cons (pe_lst (pa_cons pe_int (pa_cons pe_int (pa_cons (pe_un un_negA pe_int) pa_nil)))) pa_nil)) pa_nil)))))))
  (pss_cons (ps_set (i := 7) sc__law_refused.nd rfl (.inl rfl) (pe_op op_addA (pv 7) (pe_lst (pa_cons (pe_lst (pa_cons (pe_lst (pa_cons pe_int (pa_cons pe_int (pa_cons (pe_un un_negA pe_int) pa_nil)))) pa_nil)) (pa_cons (pe_lst (pa_cons (pe_lst (pa_cons pe_int (pa_cons pe_int (pa_cons pe_int pa_nil)))) (pa_cons (pe_lst (pa_cons pe_non (pa_cons (pe_un un_negA pe_int) (pa_cons pe_int pa_nil)))) (pa_cons (pe_lst (pa_cons (pe_un un_negA pe_int) (pa_cons (pe_un un_negA pe_int) (pa_cons pe_int pa_nil)))) pa_nil)))) (pa_cons (pe_lst (pa_cons (pe_lst (pa_cons pe_int (pa_cons pe_int (pa_cons pe_int pa_nil)))) (pa_cons (pe_lst (pa_cons pe_int (pa_cons pe_int (pa_cons (pe_un un_negA pe_int) pa_nil)))) pa_nil))) (pa_cons (pe_lst pa_nil) pa_nil)))))))
  (pss_cons (ps_for (passes_of rfl) rfl (pi_sq (pe_ix (ix_A (hr).units) (pv 7) (pv 1) (fun _ _ => rfl))) (pg_name (i := 8) sc__law_refused.nd rfl (.inl rfl)) (pss_one (ps_if (pt_cmpR (op_neP (hr).units) (pe_cal C__law_asked hr (by decide) (by rfl) tk0 (pa_cons (pv 1) (pa_cons (pv 2) (pa_cons pe_int (pa_cons pe_int (pa_cons (pe_op op_addA (pv 8) (pe_lst (pa_cons pe_int (pa_cons pe_int (pa_cons pe_int pa_nil))))) (pa_cons (pv 3) pa_nil))))))) (pe_tup (pa_cons pe_str (pa_cons pe_str pa_nil))) (nomark _)) (pss_one (ps_ret pe_bl)) pss_nil)))
  (pss_cons (ps_set (i := 9) sc__law_refused.nd rfl (.inl rfl) (pe_op op_addA (pe_op op_powA pe_int pe_int) pe_int))
  (pss_cons (ps_set (i := 10) sc__law_refused.nd rfl (.inl rfl) (pe_lst (pa_cons (pe_lst (pa_cons pe_int (pa_cons pe_int pa_nil))) (pa_cons (pe_lst (pa_cons pe_int pa_nil)) (pa_cons (pe_lst (pa_cons pe_int pa_nil)) (pa_cons (pe_lst (pa_cons pe_int pa_nil)) (pa_cons (pe_lst (pa_cons pe_int (pa_cons pe_int pa_nil))) (pa_cons (pe_lst (pa_cons pe_int pa_nil)) (pa_cons (pe_lst (pa_cons pe_int (pa_cons pe_int (pa_cons pe_int (pa_cons pe_int pa_nil))))) (pa_cons (pe_lst (pa_cons pe_int pa_nil)) (pa_cons (pe_lst pa_nil) pa_nil)))))))))))
  (pss_cons (ps_for (passes_of rfl) rfl (pi_sq (pe_ix (ix_A (hr).units) (pv 10) (pv 1) (fun _ _ => rfl))) (pg_name (i := 11) sc__law_refused.nd rfl (.inl rfl)) (pss_cons (ps_set (i := 12) sc__law_refused.nd rfl (.inl rfl) (pe_callTy cr_listA (by rfl) T.b_list (by decide +kernel) (pa_cons (pv 4) pa_nil)))
  (pss_cons (ps_asg (pe_ifExp (pt_cmpR (op_neP (hr).units) (pv 11) pe_int (nomark _)) (pv 9) (pe_un un_negA (pv 9))) (pg_sub (pv 12) (pv 11) set_list))
  (pss_cons (ps_if (pt_cmpR (op_neP (hr).units) (pe_cal C__law_asked hr (by decide) (by rfl) tk0 (pa_cons (pv 1) (pa_cons (pe_lst (pa_cons pe_str (pa_cons pe_str pa_nil))) (pa_cons pe_int (pa_cons pe_int (pa_cons (pv 12) (pa_cons (pv 3) pa_nil))))))) (pe_tup (pa_cons pe_str (pa_cons pe_str pa_nil))) (nomark _)) (pss_one (ps_ret pe_bl)) pss_nil)
  (pss_cons (ps_asg (pe_op op_addA (pe_ix (ix_A (hr).units) (pv 12) (pv 11) (fun _ _ => rfl)) (pe_ifExp (pt_cmpR (op_eqP (hr).units) (pv 11) pe_int (nomark _)) pe_int (pe_un un_negA pe_int))) (pg_sub (pv 12) (pv 11) set_list))
  (pss_one (ps_if (pt_cmpR (op_neP (hr).units) (pe_ix (ix_A (hr).units) (pe_cal C__law_asked hr (by decide) (by rfl) tk0 (pa_cons (pv 1) (pa_cons (pv 2) (pa_cons pe_int (pa_cons pe_int (pa_cons (pv 12) (pa_cons (pv 3) pa_nil))))))) pe_int (fun _ _ => rfl)) pe_str (nomark _)) (pss_one (ps_ret pe_bl)) pss_nil)))))))
  (pss_one (ps_ret pe_bl)))))))))))))))))))
theorem d_law (T : Tx K mg) (C__law_counted : Cal P w K mg base 8 "_law_counted" ["purse", "kind"] (c__law_counted K)) (C__law_lined : Cal P w K mg base 8 "_law_lined" ["purse"] (c__law_lined K)) (C__law_purse : CalS P w K mg base 1 "_law_purse" ["script", "at"] (sp__law_purse K)) (C__law_refused : Cal P w K mg base 8 "_law_refused" ["purse", "kind"] (c__law_refused K)) (C__law_sent : Cal P w K mg base 8 "_law_sent" ["purse"] (c__law_sent K))  {f : Addr} {cdv : Value} {A : Around} {outer : List Env} {s : Shared} {H : Hp} {E : XK} (hr : Room 8 (A.deeper (envOfC "law" (defScope s_law) s.heap.objs.size f cdv))) :
    PSs (cxOf (L2.CX P w) P w K mg base ["script", "purse", "turn", "kind"] "law" (defScope s_law) f cdv A outer s H E) (defBody s_law) (r_law K (fun cls d _ H => E cls d H)) :=
  have tk0 := takes_of (X := cxOf (L2.CX P w) P w K mg base ["script", "purse", "turn", "kind"] "law" (defScope s_law) f cdv A outer s H E) (E := E) rfl rfl rfl rfl
  (pss_cons (ps_set (i := 1) sc_law.nd rfl (.inl rfl) (pe_calS C__law_purse hr (by decide) (by rfl) tk0 (pa_cons (pv 0) (pa_cons pe_int pa_nil))))
  (pss_cons (ps_for (passes_of rfl) rfl (pi_range1 (by rfl) T.b_range (pa_cons pe_int pa_nil)) (pg_name (i := 2) sc_law.nd rfl (.inl rfl)) (pss_cons (ps_for (passes_of rfl) rfl (pi_range1 (by rfl) T.b_range (pa_cons pe_int pa_nil)) (pg_name (i := 3) sc_law.nd rfl (.inl rfl)) (pss_one (ps_if (pt_not (pt_val (pe_cal C__law_counted hr (by decide) (by rfl) tk0 (pa_cons (pv 1) (pa_cons (pv 3) pa_nil))))) (pss_one (ps_ret pe_bl)) pss_nil)))
  (pss_one (ps_if (PW.pt (pw_or (pt_not (pt_val (pe_cal C__law_lined hr (by decide) (by rfl) tk0 (pa_cons (pv 1) pa_nil)))) (pw_or1 (pt_not (pt_val (pe_cal C__law_sent hr (by decide) (by rfl) tk0 (pa_cons (pv 1) pa_nil))))))) (pss_one (ps_ret pe_bl)) pss_nil))))
  (pss_cons (ps_for (passes_of rfl) rfl (pi_range1 (by rfl) T.b_range (pa_cons pe_int pa_nil)) (pg_name (i := 3) sc_law.nd rfl (.inl rfl)) (pss_one (ps_if (pt_not (pt_val (pe_cal C__law_refused hr (by decide) (by rfl) tk0 (pa_cons (pv 1) (pa_cons (pv 3) pa_nil))))) (pss_one (ps_ret pe_bl)) pss_nil)))
  (pss_one (ps_ret pe_bl)))))
end
end K03
end AB

set_option Elab.async false
set_option linter.all false
set_option maxRecDepth 100000
set_option maxHeartbeats 4000000
set_option autoImplicit false
namespace AB
open PySem L2 PySem.Spec PyProof.Rows He
namespace K03
theorem sc_i_TooMany : FnScope ["self", "what"] ["self", "what"] (defScope (initOf s_TooMany)) := ⟨rfl, rfl, rfl, by decide +kernel, rfl, by decide +kernel, by decide +kernel⟩
theorem ok_TooMany {P : Program} {w : World} {K : PySem.W.Frag} {mg : Str → Option Value} {base : Heap} (T : Tx K mg) {fd : FuncData} (F : FunD K "__init__" "TooMany.__init__" (defArgs (initOf s_TooMany)) (defBody (initOf s_TooMany)) (defScope (initOf s_TooMany)) [] [] (ma K (He.ga K "TooMany") "__init__") fd) : InitOk P w K mg base "TooMany" ["what"] :=
  ⟨fd, ["self", "what"], Fun.okX (He5.fun_of F) sc_i_TooMany (init_len rfl) (fun cdv A outer s H vs Q E hr h => ⟨_, pss_cons (ps_expr (pe_apI T.apart rfl (pa_cons (pv 0) (pa_cons pe_str pa_nil)))) (pss_one (ps_ost (pv 0) (pv 1))), init1 rfl T.x_TooMany.ox (T.x_TooMany.no _ (by decide)) h⟩), F.bindsN fun _ _ _ _ _ _ us hl => match us, hl with | [_, _], _ => rfl⟩

theorem sc_i_BadPattern : FnScope ["self", "what"] ["self", "what"] (defScope (initOf s_BadPattern)) := ⟨rfl, rfl, rfl, by decide +kernel, rfl, by decide +kernel, by decide +kernel⟩
theorem ok_BadPattern {P : Program} {w : World} {K : PySem.W.Frag} {mg : Str → Option Value} {base : Heap} (T : Tx K mg) {fd : FuncData} (F : FunD K "__init__" "BadPattern.__init__" (defArgs (initOf s_BadPattern)) (defBody (initOf s_BadPattern)) (defScope (initOf s_BadPattern)) [] [] (ma K (He.ga K "BadPattern") "__init__") fd) : InitOk P w K mg base "BadPattern" ["what"] :=
  ⟨fd, ["self", "what"], Fun.okX (He5.fun_of F) sc_i_BadPattern (init_len rfl) (fun cdv A outer s H vs Q E hr h => ⟨_, pss_cons (ps_expr (pe_apI T.apart rfl (pa_cons (pv 0) (pa_cons pe_str pa_nil)))) (pss_one (ps_ost (pv 0) (pv 1))), init1 rfl T.x_BadPattern.ox (T.x_BadPattern.no _ (by decide)) h⟩), F.bindsN fun _ _ _ _ _ _ us hl => match us, hl with | [_, _], _ => rfl⟩

def D_check_most : He.DefD := ⟨("check_most", none), "check_most", "check_most", defArgs s_check_most, defBody s_check_most, defScope s_check_most, [], []⟩
def D_check_numbers : He.DefD := ⟨("check_numbers", none), "check_numbers", "check_numbers", defArgs s_check_numbers, defBody s_check_numbers, defScope s_check_numbers, [], []⟩
def D_is_word : He.DefD := ⟨("is_word", none), "is_word", "is_word", defArgs s_is_word, defBody s_is_word, defScope s_is_word, [], []⟩
def D_check_pattern : He.DefD := ⟨("check_pattern", none), "check_pattern", "check_pattern", defArgs s_check_pattern, defBody s_check_pattern, defScope s_check_pattern, [], []⟩
def D_at_moment : He.DefD := ⟨("at_moment", none), "at_moment", "at_moment", defArgs s_at_moment, defBody s_at_moment, defScope s_at_moment, [], []⟩
def D_below_zero : He.DefD := ⟨("below_zero", none), "below_zero", "below_zero", defArgs s_below_zero, defBody s_below_zero, defScope s_below_zero, [], []⟩
def D_crossed : He.DefD := ⟨("crossed", none), "crossed", "crossed", defArgs s_crossed, defBody s_crossed, defScope s_crossed, [], []⟩
def D_line_rows : He.DefD := ⟨("line_rows", none), "line_rows", "line_rows", defArgs s_line_rows, defBody s_line_rows, defScope s_line_rows, [], []⟩
def D_after_rows : He.DefD := ⟨("after_rows", none), "after_rows", "after_rows", defArgs s_after_rows, defBody s_after_rows, defScope s_after_rows, [], []⟩
def D_within_rows : He.DefD := ⟨("within_rows", none), "within_rows", "within_rows", defArgs s_within_rows, defBody s_within_rows, defScope s_within_rows, [], []⟩
def D_due_rows : He.DefD := ⟨("due_rows", none), "due_rows", "due_rows", defArgs s_due_rows, defBody s_due_rows, defScope s_due_rows, [], []⟩
def D_turn_rows : He.DefD := ⟨("turn_rows", none), "turn_rows", "turn_rows", defArgs s_turn_rows, defBody s_turn_rows, defScope s_turn_rows, [], []⟩
def D_road_letters : He.DefD := ⟨("road_letters", none), "road_letters", "road_letters", defArgs s_road_letters, defBody s_road_letters, defScope s_road_letters, [], []⟩
def D_watch_sights : He.DefD := ⟨("watch_sights", none), "watch_sights", "watch_sights", defArgs s_watch_sights, defBody s_watch_sights, defScope s_watch_sights, [], []⟩
def D_stock_rows : He.DefD := ⟨("stock_rows", none), "stock_rows", "stock_rows", defArgs s_stock_rows, defBody s_stock_rows, defScope s_stock_rows, [], []⟩
def D_loss_rows : He.DefD := ⟨("loss_rows", none), "loss_rows", "loss_rows", defArgs s_loss_rows, defBody s_loss_rows, defScope s_loss_rows, [], []⟩
def D__law_purse : He.DefD := ⟨("_law_purse", none), "_law_purse", "_law_purse", defArgs s__law_purse, defBody s__law_purse, defScope s__law_purse, [], []⟩
def D__law_draw : He.DefD := ⟨("_law_draw", none), "_law_draw", "_law_draw", defArgs s__law_draw, defBody s__law_draw, defScope s__law_draw, [], []⟩
def D__law_word : He.DefD := ⟨("_law_word", none), "_law_word", "_law_word", defArgs s__law_word, defBody s__law_word, defScope s__law_word, [], []⟩
def D__law_words : He.DefD := ⟨("_law_words", none), "_law_words", "_law_words", defArgs s__law_words, defBody s__law_words, defScope s__law_words, [], []⟩
def D__law_sides : He.DefD := ⟨("_law_sides", none), "_law_sides", "_law_sides", defArgs s__law_sides, defBody s__law_sides, defScope s__law_sides, [], []⟩
def D__law_number : He.DefD := ⟨("_law_number", none), "_law_number", "_law_number", defArgs s__law_number, defBody s__law_number, defScope s__law_number, [], []⟩
def D__law_at : He.DefD := ⟨("_law_at", none), "_law_at", "_law_at", defArgs s__law_at, defBody s__law_at, defScope s__law_at, [], []⟩
def D__law_keeps : He.DefD := ⟨("_law_keeps", none), "_law_keeps", "_law_keeps", defArgs s__law_keeps, defBody s__law_keeps, defScope s__law_keeps, [], []⟩
def D__law_counts : He.DefD := ⟨("_law_counts", none), "_law_counts", "_law_counts", defArgs s__law_counts, defBody s__law_counts, defScope s__law_counts, [], []⟩
def D__law_span : He.DefD := ⟨("_law_span", none), "_law_span", "_law_span", defArgs s__law_span, defBody s__law_span, defScope s__law_span, [], []⟩
def D__law_sided : He.DefD := ⟨("_law_sided", none), "_law_sided", "_law_sided", defArgs s__law_sided, defBody s__law_sided, defScope s__law_sided, [], []⟩
def D__law_own : He.DefD := ⟨("_law_own", none), "_law_own", "_law_own", defArgs s__law_own, defBody s__law_own, defScope s__law_own, [], []⟩
def D__law_meaning : He.DefD := ⟨("_law_meaning", none), "_law_meaning", "_law_meaning", defArgs s__law_meaning, defBody s__law_meaning, defScope s__law_meaning, [], []⟩
def D__law_call : He.DefD := ⟨("_law_call", none), "_law_call", "_law_call", defArgs s__law_call, defBody s__law_call, defScope s__law_call, [], []⟩
def D__law_asked : He.DefD := ⟨("_law_asked", none), "_law_asked", "_law_asked", defArgs s__law_asked, defBody s__law_asked, defScope s__law_asked, [], []⟩
def D__law_gap : He.DefD := ⟨("_law_gap", none), "_law_gap", "_law_gap", defArgs s__law_gap, defBody s__law_gap, defScope s__law_gap, [], []⟩
def D__law_numbers : He.DefD := ⟨("_law_numbers", none), "_law_numbers", "_law_numbers", defArgs s__law_numbers, defBody s__law_numbers, defScope s__law_numbers, [], []⟩
def D__law_counted : He.DefD := ⟨("_law_counted", none), "_law_counted", "_law_counted", defArgs s__law_counted, defBody s__law_counted, defScope s__law_counted, [], []⟩
def D__law_lined : He.DefD := ⟨("_law_lined", none), "_law_lined", "_law_lined", defArgs s__law_lined, defBody s__law_lined, defScope s__law_lined, [], []⟩
def D__law_sent : He.DefD := ⟨("_law_sent", none), "_law_sent", "_law_sent", defArgs s__law_sent, defBody s__law_sent, defScope s__law_sent, [], []⟩
def D__law_refused : He.DefD := ⟨("_law_refused", none), "_law_refused", "_law_refused", defArgs s__law_refused, defBody s__law_refused, defScope s__law_refused, [], []⟩
def D_law : He.DefD := ⟨("law", none), "law", "law", defArgs s_law, defBody s_law, defScope s_law, [], []⟩
def D_TooMany : He.DefD := ⟨("TooMany", some "__init__"), "__init__", "TooMany.__init__", defArgs (initOf s_TooMany), defBody (initOf s_TooMany), defScope (initOf s_TooMany), [], []⟩
def D_BadPattern : He.DefD := ⟨("BadPattern", some "__init__"), "__init__", "BadPattern.__init__", defArgs (initOf s_BadPattern), defBody (initOf s_BadPattern), defScope (initOf s_BadPattern), [], []⟩
def fn : List He.DefD := ([D_check_most, D_check_numbers, D_is_word, D_check_pattern, D_at_moment, D_below_zero, D_crossed, D_line_rows, D_after_rows, D_within_rows, D_due_rows, D_turn_rows, D_road_letters, D_watch_sights, D_stock_rows, D_loss_rows, D__law_purse, D__law_draw, D__law_word, D__law_words, D__law_sides, D__law_number, D__law_at, D__law_keeps, D__law_counts, D__law_span, D__law_sided, D__law_own, D__law_meaning, D__law_call] : List He.DefD) ++ ([D__law_asked, D__law_gap, D__law_numbers, D__law_counted, D__law_lined, D__law_sent, D__law_refused, D_law, D_TooMany, D_BadPattern] : List He.DefD)
def fa : List He.Fa := ([.glo "check_most", .glo "check_numbers", .glo "is_word", .glo "check_pattern", .glo "at_moment", .glo "below_zero", .glo "crossed", .glo "line_rows", .glo "after_rows", .glo "within_rows", .glo "due_rows", .glo "turn_rows", .glo "road_letters", .glo "watch_sights", .glo "stock_rows", .glo "loss_rows", .glo "_law_purse", .glo "_law_draw", .glo "_law_word", .glo "_law_words", .glo "_law_sides", .glo "_law_number", .glo "_law_at", .glo "_law_keeps", .glo "_law_counts", .glo "_law_span", .glo "_law_sided", .glo "_law_own", .glo "_law_meaning", .glo "_law_call"] : List He.Fa) ++ ([.glo "_law_asked", .glo "_law_gap", .glo "_law_numbers", .glo "_law_counted", .glo "_law_lined", .glo "_law_sent", .glo "_law_refused", .glo "law", .free "abs", .free "int", .free "isinstance", .free "len", .free "list", .free "max", .free "min", .free "range", .free "str", .free "sum", .free "tuple", .str "FIRSTS" "abcdefghijklmnopqrstuvwxyz", .int "MOMENTS" (24), .int "NUMBERS" (1000000000), .str "REST" "abcdefghijklmnopqrstuvwxyz0123456789.", .int "WORD_LENGTH" (12), .exm "TooMany" "TooMany" true, .exm "TooMany" "BadPattern" false, .exm "BadPattern" "TooMany" false, .exm "BadPattern" "BadPattern" true] : List He.Fa)
def ex (K : PySem.W.Frag) : Bool := exfB K "TooMany" ["what"] && (exfB K "BadPattern" ["what"] && apartB K)
theorem tx {K : PySem.W.Frag} {h : Heap} {mg : Str → Option Value} (X : K.In h) (G : h.Ns mainGlobals mg) (c : He.SaysD fa fn K) (e : ex K = true) : Tx K mg := by
  obtain ⟨e1, e2⟩ := Bool.and_eq_true_iff.mp e
  obtain ⟨e2, e3⟩ := Bool.and_eq_true_iff.mp e2
  exact {
    b_abs := He.free_ok X G (c.fact 38 (f := .free "abs") rfl)
    b_int := He.free_ok X G (c.fact 39 (f := .free "int") rfl)
    b_isinstance := He.free_ok X G (c.fact 40 (f := .free "isinstance") rfl)
    b_len := He.free_ok X G (c.fact 41 (f := .free "len") rfl)
    b_list := He.free_ok X G (c.fact 42 (f := .free "list") rfl)
    b_max := He.free_ok X G (c.fact 43 (f := .free "max") rfl)
    b_min := He.free_ok X G (c.fact 44 (f := .free "min") rfl)
    b_range := He.free_ok X G (c.fact 45 (f := .free "range") rfl)
    b_str := He.free_ok X G (c.fact 46 (f := .free "str") rfl)
    b_sum := He.free_ok X G (c.fact 47 (f := .free "sum") rfl)
    b_tuple := He.free_ok X G (c.fact 48 (f := .free "tuple") rfl)
    n_FIRSTS := by
      obtain ⟨t, z⟩ := He.str_ok X G (c.fact 49 (f := .str "FIRSTS" "abcdefghijklmnopqrstuvwxyz") rfl)
      exact ⟨_, z, ⟨t, rfl⟩⟩
    n_MOMENTS := by
      obtain ⟨t, z⟩ := He.int_ok X G (c.fact 50 (f := .int "MOMENTS" (24)) rfl)
      exact ⟨_, z, ⟨t, rfl⟩⟩
    n_NUMBERS := by
      obtain ⟨t, z⟩ := He.int_ok X G (c.fact 51 (f := .int "NUMBERS" (1000000000)) rfl)
      exact ⟨_, z, ⟨t, rfl⟩⟩
    n_REST := by
      obtain ⟨t, z⟩ := He.str_ok X G (c.fact 52 (f := .str "REST" "abcdefghijklmnopqrstuvwxyz0123456789.") rfl)
      exact ⟨_, z, ⟨t, rfl⟩⟩
    n_WORD_LENGTH := by
      obtain ⟨t, z⟩ := He.int_ok X G (c.fact 53 (f := .int "WORD_LENGTH" (12)) rfl)
      exact ⟨_, z, ⟨t, rfl⟩⟩
    x_TooMany := exfB_ok X G e1
    x_BadPattern := exfB_ok X G e2
    apart := apartB_ok X G e3
    m_TooMany_TooMany := He.exm_ok (c.fact 54 (f := .exm "TooMany" "TooMany" true) rfl)
    m_TooMany_BadPattern := He.exm_ok (c.fact 55 (f := .exm "TooMany" "BadPattern" false) rfl)
    m_BadPattern_TooMany := He.exm_ok (c.fact 56 (f := .exm "BadPattern" "TooMany" false) rfl)
    m_BadPattern_BadPattern := He.exm_ok (c.fact 57 (f := .exm "BadPattern" "BadPattern" true) rfl) }
theorem law_ok {P : Program} {w : World} {K : PySem.W.Frag} {h : Heap} {mg : Str → Option Value} {base : Heap} (X : K.In h) (G : h.Ns mainGlobals mg) (c : He.SaysD fa fn K) (e : ex K = true) {fd : FuncData} (FL : FunD K "law" "law" (defArgs s_law) (defBody s_law) (defScope s_law) [] [] (He.ga K "law") fd) :
    FnOk P w K mg base (L2.CX P w) 9 (He.ga K "law") fd ["script"] (spLaw K) := by
  have T := tx X G c e
  obtain ⟨fd_TooMany, F_TooMany⟩ := c.def_ 38 (d := D_TooMany) rfl
  have I_TooMany : InitOk P w K mg base "TooMany" ["what"] := ok_TooMany T F_TooMany
  obtain ⟨fd_BadPattern, F_BadPattern⟩ := c.def_ 39 (d := D_BadPattern) rfl
  have I_BadPattern : InitOk P w K mg base "BadPattern" ["what"] := ok_BadPattern T F_BadPattern
  obtain ⟨fd_check_most, F0_check_most⟩ := c.def_ 0 (d := D_check_most) rfl
  have F_check_most : FunD K "check_most" "check_most" (defArgs s_check_most) (defBody s_check_most) (defScope s_check_most) [] [] (He.ga K "check_most") fd_check_most := F0_check_most
  have C_check_most : Cal P w K mg base 3 "check_most" ["what", "many", "most"] (c_check_most K) := cal_of (t := r_check_most K) (He5.fun_of F_check_most) sc_check_most (He.glo_ok X G (c.fact 0 (f := .glo "check_most") rfl)) (FunD.bindsN (ps := ["what", "many", "most"]) F_check_most fun _ _ _ _ _ _ us hl => match us, hl with | [_, _, _], _ => rfl) (fun ss o Rt Xt c => by obtain ⟨_, _, _, rfl, _⟩ := c; rfl) (fun hr => d_check_most T  I_TooMany hr) (fun B W ss o Rt Xt hB c hX => w_check_most c hX)
  obtain ⟨fd_check_numbers, F0_check_numbers⟩ := c.def_ 1 (d := D_check_numbers) rfl
  have F_check_numbers : FunD K "check_numbers" "check_numbers" (defArgs s_check_numbers) (defBody s_check_numbers) (defScope s_check_numbers) [] [] (He.ga K "check_numbers") fd_check_numbers := F0_check_numbers
  have C_check_numbers : Cal P w K mg base 3 "check_numbers" ["numbers", "most"] (c_check_numbers K) := cal_of (t := r_check_numbers K) (He5.fun_of F_check_numbers) sc_check_numbers (He.glo_ok X G (c.fact 1 (f := .glo "check_numbers") rfl)) (FunD.bindsN (ps := ["numbers", "most"]) F_check_numbers fun _ _ _ _ _ _ us hl => match us, hl with | [_, _], _ => rfl) (fun ss o Rt Xt c => by obtain ⟨_, rfl, _⟩ := c; rfl) (fun hr => d_check_numbers T  I_TooMany hr) (fun B W ss o Rt Xt hB c hX => w_check_numbers c hX)
  obtain ⟨fd_is_word, F0_is_word⟩ := c.def_ 2 (d := D_is_word) rfl
  have F_is_word : FunD K "is_word" "is_word" (defArgs s_is_word) (defBody s_is_word) (defScope s_is_word) [] [] (He.ga K "is_word") fd_is_word := F0_is_word
  have C_is_word : Cal P w K mg base 1 "is_word" ["word"] (c_is_word K) := cal_of (t := r_is_word K) (He5.fun_of F_is_word) sc_is_word (He.glo_ok X G (c.fact 2 (f := .glo "is_word") rfl)) (FunD.bindsN (ps := ["word"]) F_is_word fun _ _ _ _ _ _ us hl => match us, hl with | [_], _ => rfl) (fun ss o Rt Xt c => by obtain ⟨_, rfl, _⟩ := c; rfl) (fun hr => d_is_word T   hr) (fun B W ss o Rt Xt hB c hX => w_is_word c)
  obtain ⟨fd_at_moment, F0_at_moment⟩ := c.def_ 4 (d := D_at_moment) rfl
  have F_at_moment : FunD K "at_moment" "at_moment" (defArgs s_at_moment) (defBody s_at_moment) (defScope s_at_moment) [] [] (He.ga K "at_moment") fd_at_moment := F0_at_moment
  have C_at_moment : Cal P w K mg base 1 "at_moment" ["name", "moment"] (c_at_moment K) := cal_of (t := r_at_moment K) (He5.fun_of F_at_moment) sc_at_moment (He.glo_ok X G (c.fact 4 (f := .glo "at_moment") rfl)) (FunD.bindsN (ps := ["name", "moment"]) F_at_moment fun _ _ _ _ _ _ us hl => match us, hl with | [_, _], _ => rfl) (fun ss o Rt Xt c => by obtain ⟨_, _, rfl, _⟩ := c; rfl) (fun hr => d_at_moment T   hr) (fun B W ss o Rt Xt hB c hX => w_at_moment c)
  obtain ⟨fd_check_pattern, F0_check_pattern⟩ := c.def_ 3 (d := D_check_pattern) rfl
  have F_check_pattern : FunD K "check_pattern" "check_pattern" (defArgs s_check_pattern) (defBody s_check_pattern) (defScope s_check_pattern) [] [] (He.ga K "check_pattern") fd_check_pattern := F0_check_pattern
  have C_check_pattern : Cal P w K mg base 4 "check_pattern" ["names", "first", "last", "numbers", "wrong"] (c_check_pattern K) := cal_of (t := r_check_pattern K) (He5.fun_of F_check_pattern) sc_check_pattern (He.glo_ok X G (c.fact 3 (f := .glo "check_pattern") rfl)) (FunD.bindsN (ps := ["names", "first", "last", "numbers", "wrong"]) F_check_pattern fun _ _ _ _ _ _ us hl => match us, hl with | [_, _, _, _, _], _ => rfl) (fun ss o Rt Xt c => by obtain ⟨_, _, _, _, _, rfl, _⟩ := c; rfl) (fun hr => d_check_pattern T C_at_moment C_check_most C_check_numbers C_is_word I_BadPattern hr) (fun B W ss o Rt Xt hB c hX => w_check_pattern c hX)
  obtain ⟨fd_below_zero, F0_below_zero⟩ := c.def_ 5 (d := D_below_zero) rfl
  have F_below_zero : FunD K "below_zero" "below_zero" (defArgs s_below_zero) (defBody s_below_zero) (defScope s_below_zero) [] [] (He.ga K "below_zero") fd_below_zero := F0_below_zero
  have C_below_zero : Cal P w K mg base 1 "below_zero" ["number"] (c_below_zero K) := cal_of (t := r_below_zero K) (He5.fun_of F_below_zero) sc_below_zero (He.glo_ok X G (c.fact 5 (f := .glo "below_zero") rfl)) (FunD.bindsN (ps := ["number"]) F_below_zero fun _ _ _ _ _ _ us hl => match us, hl with | [_], _ => rfl) (fun ss o Rt Xt c => by obtain ⟨_, rfl, _⟩ := c; rfl) (fun hr => d_below_zero T   hr) (fun B W ss o Rt Xt hB c hX => w_below_zero c)
  obtain ⟨fd_crossed, F0_crossed⟩ := c.def_ 6 (d := D_crossed) rfl
  have F_crossed : FunD K "crossed" "crossed" (defArgs s_crossed) (defBody s_crossed) (defScope s_crossed) [] [] (He.ga K "crossed") fd_crossed := F0_crossed
  have C_crossed : Cal P w K mg base 1 "crossed" ["low", "high"] (c_crossed K) := cal_of (t := r_crossed K) (He5.fun_of F_crossed) sc_crossed (He.glo_ok X G (c.fact 6 (f := .glo "crossed") rfl)) (FunD.bindsN (ps := ["low", "high"]) F_crossed fun _ _ _ _ _ _ us hl => match us, hl with | [_, _], _ => rfl) (fun ss o Rt Xt c => by obtain ⟨_, _, rfl, _⟩ := c; rfl) (fun hr => d_crossed T   hr) (fun B W ss o Rt Xt hB c hX => w_crossed c)
  obtain ⟨fd_line_rows, F0_line_rows⟩ := c.def_ 7 (d := D_line_rows) rfl
  have F_line_rows : FunD K "line_rows" "line_rows" (defArgs s_line_rows) (defBody s_line_rows) (defScope s_line_rows) [] [] (He.ga K "line_rows") fd_line_rows := F0_line_rows
  have C_line_rows : Cal P w K mg base 5 "line_rows" ["name", "helper", "first", "last", "least", "most", "slow", "fast"] (c_line_rows K) := cal_of (t := r_line_rows K) (He5.fun_of F_line_rows) sc_line_rows (He.glo_ok X G (c.fact 7 (f := .glo "line_rows") rfl)) (FunD.bindsN (ps := ["name", "helper", "first", "last", "least", "most", "slow", "fast"]) F_line_rows fun _ _ _ _ _ _ us hl => match us, hl with | [_, _, _, _, _, _, _, _], _ => rfl) (fun ss o Rt Xt c => by obtain ⟨_, _, _, _, _, _, _, _, rfl, _⟩ := c; rfl) (fun hr => d_line_rows T C_at_moment C_below_zero C_check_pattern C_crossed  hr) (fun B W ss o Rt Xt hB c hX => w_line_rows hB c hX)
  obtain ⟨fd_after_rows, F0_after_rows⟩ := c.def_ 8 (d := D_after_rows) rfl
  have F_after_rows : FunD K "after_rows" "after_rows" (defArgs s_after_rows) (defBody s_after_rows) (defScope s_after_rows) [] [] (He.ga K "after_rows") fd_after_rows := F0_after_rows
  have C_after_rows : Cal P w K mg base 5 "after_rows" ["later", "earlier", "first", "last", "wait", "yes", "no"] (c_after_rows K) := cal_of (t := r_after_rows K) (He5.fun_of F_after_rows) sc_after_rows (He.glo_ok X G (c.fact 8 (f := .glo "after_rows") rfl)) (FunD.bindsN (ps := ["later", "earlier", "first", "last", "wait", "yes", "no"]) F_after_rows fun _ _ _ _ _ _ us hl => match us, hl with | [_, _, _, _, _, _, _], _ => rfl) (fun ss o Rt Xt c => by obtain ⟨_, _, _, _, _, _, _, _, _, rfl, _⟩ := c; rfl) (fun hr => d_after_rows T C_at_moment C_check_pattern  hr) (fun B W ss o Rt Xt hB c hX => w_after_rows hB c hX)
  obtain ⟨fd_within_rows, F0_within_rows⟩ := c.def_ 9 (d := D_within_rows) rfl
  have F_within_rows : FunD K "within_rows" "within_rows" (defArgs s_within_rows) (defBody s_within_rows) (defScope s_within_rows) [] [] (He.ga K "within_rows") fd_within_rows := F0_within_rows
  have C_within_rows : Cal P w K mg base 5 "within_rows" ["earlier", "later", "first", "last", "stay", "yes", "no"] (c_within_rows K) := cal_of (t := r_within_rows K) (He5.fun_of F_within_rows) sc_within_rows (He.glo_ok X G (c.fact 9 (f := .glo "within_rows") rfl)) (FunD.bindsN (ps := ["earlier", "later", "first", "last", "stay", "yes", "no"]) F_within_rows fun _ _ _ _ _ _ us hl => match us, hl with | [_, _, _, _, _, _, _], _ => rfl) (fun ss o Rt Xt c => by obtain ⟨_, _, _, _, _, _, _, _, _, rfl, _⟩ := c; rfl) (fun hr => d_within_rows T C_at_moment C_check_pattern  hr) (fun B W ss o Rt Xt hB c hX => w_within_rows hB c hX)
  obtain ⟨fd_due_rows, F0_due_rows⟩ := c.def_ 10 (d := D_due_rows) rfl
  have F_due_rows : FunD K "due_rows" "due_rows" (defArgs s_due_rows) (defBody s_due_rows) (defScope s_due_rows) [] [] (He.ga K "due_rows") fd_due_rows := F0_due_rows
  have C_due_rows : Cal P w K mg base 5 "due_rows" ["name", "moment", "many", "yes", "no"] (c_due_rows K) := cal_of (t := r_due_rows K) (He5.fun_of F_due_rows) sc_due_rows (He.glo_ok X G (c.fact 10 (f := .glo "due_rows") rfl)) (FunD.bindsN (ps := ["name", "moment", "many", "yes", "no"]) F_due_rows fun _ _ _ _ _ _ us hl => match us, hl with | [_, _, _, _, _], _ => rfl) (fun ss o Rt Xt c => by obtain ⟨_, _, _, _, _, _, _, rfl, _⟩ := c; rfl) (fun hr => d_due_rows T C_at_moment C_check_pattern  hr) (fun B W ss o Rt Xt hB c hX => w_due_rows c hX)
  obtain ⟨fd_turn_rows, F0_turn_rows⟩ := c.def_ 11 (d := D_turn_rows) rfl
  have F_turn_rows : FunD K "turn_rows" "turn_rows" (defArgs s_turn_rows) (defBody s_turn_rows) (defScope s_turn_rows) [] [] (He.ga K "turn_rows") fd_turn_rows := F0_turn_rows
  have C_turn_rows : Cal P w K mg base 5 "turn_rows" ["user", "giver", "first", "last", "own", "yes", "no"] (c_turn_rows K) := cal_of (t := r_turn_rows K) (He5.fun_of F_turn_rows) sc_turn_rows (He.glo_ok X G (c.fact 11 (f := .glo "turn_rows") rfl)) (FunD.bindsN (ps := ["user", "giver", "first", "last", "own", "yes", "no"]) F_turn_rows fun _ _ _ _ _ _ us hl => match us, hl with | [_, _, _, _, _, _, _], _ => rfl) (fun ss o Rt Xt c => by obtain ⟨_, _, _, _, _, _, _, _, _, rfl, _⟩ := c; rfl) (fun hr => d_turn_rows T C_at_moment C_check_pattern  hr) (fun B W ss o Rt Xt hB c hX => w_turn_rows hB c hX)
  obtain ⟨fd_road_letters, F0_road_letters⟩ := c.def_ 12 (d := D_road_letters) rfl
  have F_road_letters : FunD K "road_letters" "road_letters" (defArgs s_road_letters) (defBody s_road_letters) (defScope s_road_letters) [] [] (He.ga K "road_letters") fd_road_letters := F0_road_letters
  have C_road_letters : Cal P w K mg base 5 "road_letters" ["sender", "receiver", "first", "last", "lag"] (c_road_letters K) := cal_of (t := r_road_letters K) (He5.fun_of F_road_letters) sc_road_letters (He.glo_ok X G (c.fact 12 (f := .glo "road_letters") rfl)) (FunD.bindsN (ps := ["sender", "receiver", "first", "last", "lag"]) F_road_letters fun _ _ _ _ _ _ us hl => match us, hl with | [_, _, _, _, _], _ => rfl) (fun ss o Rt Xt c => by obtain ⟨_, _, _, _, rfl, _⟩ := c; rfl) (fun hr => d_road_letters T C_check_pattern  hr) (fun B W ss o Rt Xt hB c hX => w_road_letters c hX)
  obtain ⟨fd_watch_sights, F0_watch_sights⟩ := c.def_ 13 (d := D_watch_sights) rfl
  have F_watch_sights : FunD K "watch_sights" "watch_sights" (defArgs s_watch_sights) (defBody s_watch_sights) (defScope s_watch_sights) [] [] (He.ga K "watch_sights") fd_watch_sights := F0_watch_sights
  have C_watch_sights : Cal P w K mg base 5 "watch_sights" ["mishap", "helper", "first", "last"] (c_watch_sights K) := cal_of (t := r_watch_sights K) (He5.fun_of F_watch_sights) sc_watch_sights (He.glo_ok X G (c.fact 13 (f := .glo "watch_sights") rfl)) (FunD.bindsN (ps := ["mishap", "helper", "first", "last"]) F_watch_sights fun _ _ _ _ _ _ us hl => match us, hl with | [_, _, _, _], _ => rfl) (fun ss o Rt Xt c => by obtain ⟨_, _, _, _, rfl, _⟩ := c; rfl) (fun hr => d_watch_sights T C_check_pattern C_is_word I_BadPattern hr) (fun B W ss o Rt Xt hB c hX => w_watch_sights c hX)
  obtain ⟨fd_stock_rows, F0_stock_rows⟩ := c.def_ 14 (d := D_stock_rows) rfl
  have F_stock_rows : FunD K "stock_rows" "stock_rows" (defArgs s_stock_rows) (defBody s_stock_rows) (defScope s_stock_rows) [] [] (He.ga K "stock_rows") fd_stock_rows := F0_stock_rows
  have C_stock_rows : Cal P w K mg base 5 "stock_rows" ["over", "under", "first", "last", "low", "high", "yes", "no"] (c_stock_rows K) := cal_of (t := r_stock_rows K) (He5.fun_of F_stock_rows) sc_stock_rows (He.glo_ok X G (c.fact 14 (f := .glo "stock_rows") rfl)) (FunD.bindsN (ps := ["over", "under", "first", "last", "low", "high", "yes", "no"]) F_stock_rows fun _ _ _ _ _ _ us hl => match us, hl with | [_, _, _, _, _, _, _, _], _ => rfl) (fun ss o Rt Xt c => by obtain ⟨_, _, _, _, _, _, _, _, _, _, rfl, _⟩ := c; rfl) (fun hr => d_stock_rows T C_at_moment C_below_zero C_check_pattern C_crossed  hr) (fun B W ss o Rt Xt hB c hX => w_stock_rows hB c hX)
  obtain ⟨fd_loss_rows, F0_loss_rows⟩ := c.def_ 15 (d := D_loss_rows) rfl
  have F_loss_rows : FunD K "loss_rows" "loss_rows" (defArgs s_loss_rows) (defBody s_loss_rows) (defScope s_loss_rows) [] [] (He.ga K "loss_rows") fd_loss_rows := F0_loss_rows
  have C_loss_rows : Cal P w K mg base 5 "loss_rows" ["over", "under", "first", "last", "low", "many", "yes"] (c_loss_rows K) := cal_of (t := r_loss_rows K) (He5.fun_of F_loss_rows) sc_loss_rows (He.glo_ok X G (c.fact 15 (f := .glo "loss_rows") rfl)) (FunD.bindsN (ps := ["over", "under", "first", "last", "low", "many", "yes"]) F_loss_rows fun _ _ _ _ _ _ us hl => match us, hl with | [_, _, _, _, _, _, _], _ => rfl) (fun ss o Rt Xt c => by obtain ⟨_, _, _, _, _, _, _, _, rfl, _⟩ := c; rfl) (fun hr => d_loss_rows T C_at_moment C_check_pattern  hr) (fun B W ss o Rt Xt hB c hX => w_loss_rows hB c hX)
  obtain ⟨fd__law_purse, F0__law_purse⟩ := c.def_ 16 (d := D__law_purse) rfl
  have F__law_purse : FunD K "_law_purse" "_law_purse" (defArgs s__law_purse) (defBody s__law_purse) (defScope s__law_purse) [] [] (He.ga K "_law_purse") fd__law_purse := F0__law_purse
  have C__law_purse : CalS P w K mg base 1 "_law_purse" ["script", "at"] (sp__law_purse K) := ⟨_, _, Fun.okX (He5.fun_of F__law_purse) sc__law_purse (fun vs H Q E h => by obtain ⟨a, ns, rfl, _⟩ := h; rfl) (fun cdv A outer s H vs Q E hr h => ⟨_, d__law_purse T   hr, sp_purse h⟩), (He.glo_ok X G (c.fact 16 (f := .glo "_law_purse") rfl)), F__law_purse.kp, (FunD.bindsN (ps := ["script", "at"]) F__law_purse fun _ _ _ _ _ _ us hl => match us, hl with | [_, _], _ => rfl)⟩
  obtain ⟨fd__law_draw, F0__law_draw⟩ := c.def_ 17 (d := D__law_draw) rfl
  have F__law_draw : FunD K "_law_draw" "_law_draw" (defArgs s__law_draw) (defBody s__law_draw) (defScope s__law_draw) [] [] (He.ga K "_law_draw") fd__law_draw := F0__law_draw
  have C__law_draw : Cal P w K mg base 1 "_law_draw" ["purse", "many"] (c__law_draw K) := cal_of (t := r__law_draw K) (He5.fun_of F__law_draw) sc__law_draw (He.glo_ok X G (c.fact 17 (f := .glo "_law_draw") rfl)) (FunD.bindsN (ps := ["purse", "many"]) F__law_draw fun _ _ _ _ _ _ us hl => match us, hl with | [_, _], _ => rfl) (fun ss o Rt Xt c => by obtain ⟨_, _, rfl, _⟩ := c; rfl) (fun hr => d__law_draw T   hr) (fun B W ss o Rt Xt hB c hX => w__law_draw c)
  obtain ⟨fd__law_word, F0__law_word⟩ := c.def_ 18 (d := D__law_word) rfl
  have F__law_word : FunD K "_law_word" "_law_word" (defArgs s__law_word) (defBody s__law_word) (defScope s__law_word) [] [] (He.ga K "_law_word") fd__law_word := F0__law_word
  have C__law_word : Cal P w K mg base 2 "_law_word" ["purse", "taken"] (c__law_word K) := cal_of (t := r__law_word K) (He5.fun_of F__law_word) sc__law_word (He.glo_ok X G (c.fact 18 (f := .glo "_law_word") rfl)) (FunD.bindsN (ps := ["purse", "taken"]) F__law_word fun _ _ _ _ _ _ us hl => match us, hl with | [_, _], _ => rfl) (fun ss o Rt Xt c => by obtain ⟨_, _, _, rfl, _⟩ := c; rfl) (fun hr => d__law_word T C__law_draw  hr) (fun B W ss o Rt Xt hB c hX => w__law_word c)
  obtain ⟨fd__law_words, F0__law_words⟩ := c.def_ 19 (d := D__law_words) rfl
  have F__law_words : FunD K "_law_words" "_law_words" (defArgs s__law_words) (defBody s__law_words) (defScope s__law_words) [] [] (He.ga K "_law_words") fd__law_words := F0__law_words
  have C__law_words : Cal P w K mg base 3 "_law_words" ["purse", "many"] (c__law_words K) := cal_of (t := r__law_words K) (He5.fun_of F__law_words) sc__law_words (He.glo_ok X G (c.fact 19 (f := .glo "_law_words") rfl)) (FunD.bindsN (ps := ["purse", "many"]) F__law_words fun _ _ _ _ _ _ us hl => match us, hl with | [_, _], _ => rfl) (fun ss o Rt Xt c => by obtain ⟨_, _, rfl, _⟩ := c; rfl) (fun hr => d__law_words T C__law_word  hr) (fun B W ss o Rt Xt hB c hX => w__law_words hB c)
  obtain ⟨fd__law_sides, F0__law_sides⟩ := c.def_ 20 (d := D__law_sides) rfl
  have F__law_sides : FunD K "_law_sides" "_law_sides" (defArgs s__law_sides) (defBody s__law_sides) (defScope s__law_sides) [] [] (He.ga K "_law_sides") fd__law_sides := F0__law_sides
  have C__law_sides : Cal P w K mg base 2 "_law_sides" ["purse", "mishaps"] (c__law_sides K) := cal_of (t := r__law_sides K) (He5.fun_of F__law_sides) sc__law_sides (He.glo_ok X G (c.fact 20 (f := .glo "_law_sides") rfl)) (FunD.bindsN (ps := ["purse", "mishaps"]) F__law_sides fun _ _ _ _ _ _ us hl => match us, hl with | [_, _], _ => rfl) (fun ss o Rt Xt c => by obtain ⟨_, _, rfl, _⟩ := c; rfl) (fun hr => d__law_sides T C__law_draw  hr) (fun B W ss o Rt Xt hB c hX => w__law_sides hB c)
  obtain ⟨fd__law_number, F0__law_number⟩ := c.def_ 21 (d := D__law_number) rfl
  have F__law_number : FunD K "_law_number" "_law_number" (defArgs s__law_number) (defBody s__law_number) (defScope s__law_number) [] [] (He.ga K "_law_number") fd__law_number := F0__law_number
  have C__law_number : Cal P w K mg base 2 "_law_number" ["purse", "small"] (c__law_number K) := cal_of (t := r__law_number K) (He5.fun_of F__law_number) sc__law_number (He.glo_ok X G (c.fact 21 (f := .glo "_law_number") rfl)) (FunD.bindsN (ps := ["purse", "small"]) F__law_number fun _ _ _ _ _ _ us hl => match us, hl with | [_, _], _ => rfl) (fun ss o Rt Xt c => by obtain ⟨_, _, rfl, _⟩ := c; rfl) (fun hr => d__law_number T C__law_draw  hr) (fun B W ss o Rt Xt hB c hX => w__law_number c)
  obtain ⟨fd__law_at, F0__law_at⟩ := c.def_ 22 (d := D__law_at) rfl
  have F__law_at : FunD K "_law_at" "_law_at" (defArgs s__law_at) (defBody s__law_at) (defScope s__law_at) [] [] (He.ga K "_law_at") fd__law_at := F0__law_at
  have C__law_at : Cal P w K mg base 1 "_law_at" ["name", "moment"] (c__law_at K) := cal_of (t := r__law_at K) (He5.fun_of F__law_at) sc__law_at (He.glo_ok X G (c.fact 22 (f := .glo "_law_at") rfl)) (FunD.bindsN (ps := ["name", "moment"]) F__law_at fun _ _ _ _ _ _ us hl => match us, hl with | [_, _], _ => rfl) (fun ss o Rt Xt c => by obtain ⟨_, _, rfl, _⟩ := c; rfl) (fun hr => d__law_at T   hr) (fun B W ss o Rt Xt hB c hX => w__law_at c)
  obtain ⟨fd__law_keeps, F0__law_keeps⟩ := c.def_ 23 (d := D__law_keeps) rfl
  have F__law_keeps : FunD K "_law_keeps" "_law_keeps" (defArgs s__law_keeps) (defBody s__law_keeps) (defScope s__law_keeps) [] [] (He.ga K "_law_keeps") fd__law_keeps := F0__law_keeps
  have C__law_keeps : Cal P w K mg base 1 "_law_keeps" ["rows", "values"] (c__law_keeps K) := cal_of (t := r__law_keeps K) (He5.fun_of F__law_keeps) sc__law_keeps (He.glo_ok X G (c.fact 23 (f := .glo "_law_keeps") rfl)) (FunD.bindsN (ps := ["rows", "values"]) F__law_keeps fun _ _ _ _ _ _ us hl => match us, hl with | [_, _], _ => rfl) (fun ss o Rt Xt c => by obtain ⟨_, _, _, rfl, _⟩ := c; rfl) (fun hr => d__law_keeps T   hr) (fun B W ss o Rt Xt hB c hX => w__law_keeps c)
  obtain ⟨fd__law_counts, F0__law_counts⟩ := c.def_ 24 (d := D__law_counts) rfl
  have F__law_counts : FunD K "_law_counts" "_law_counts" (defArgs s__law_counts) (defBody s__law_counts) (defScope s__law_counts) [] [] (He.ga K "_law_counts") fd__law_counts := F0__law_counts
  have C__law_counts : Cal P w K mg base 2 "_law_counts" ["purse", "names", "first", "last", "step"] (c__law_counts K) := cal_of (t := r__law_counts K) (He5.fun_of F__law_counts) sc__law_counts (He.glo_ok X G (c.fact 24 (f := .glo "_law_counts") rfl)) (FunD.bindsN (ps := ["purse", "names", "first", "last", "step"]) F__law_counts fun _ _ _ _ _ _ us hl => match us, hl with | [_, _, _, _, _], _ => rfl) (fun ss o Rt Xt c => by obtain ⟨_, _, _, _, _, rfl, _⟩ := c; rfl) (fun hr => d__law_counts T C__law_at C__law_draw  hr) (fun B W ss o Rt Xt hB c hX => w__law_counts c)
  obtain ⟨fd__law_span, F0__law_span⟩ := c.def_ 25 (d := D__law_span) rfl
  have F__law_span : FunD K "_law_span" "_law_span" (defArgs s__law_span) (defBody s__law_span) (defScope s__law_span) [] [] (He.ga K "_law_span") fd__law_span := F0__law_span
  have C__law_span : Cal P w K mg base 2 "_law_span" ["purse"] (c__law_span K) := cal_of (t := r__law_span K) (He5.fun_of F__law_span) sc__law_span (He.glo_ok X G (c.fact 25 (f := .glo "_law_span") rfl)) (FunD.bindsN (ps := ["purse"]) F__law_span fun _ _ _ _ _ _ us hl => match us, hl with | [_], _ => rfl) (fun ss o Rt Xt c => by obtain ⟨_, rfl, _⟩ := c; rfl) (fun hr => d__law_span T C__law_draw  hr) (fun B W ss o Rt Xt hB c hX => w__law_span c)
  obtain ⟨fd__law_sided, F0__law_sided⟩ := c.def_ 26 (d := D__law_sided) rfl
  have F__law_sided : FunD K "_law_sided" "_law_sided" (defArgs s__law_sided) (defBody s__law_sided) (defScope s__law_sided) [] [] (He.ga K "_law_sided") fd__law_sided := F0__law_sided
  have C__law_sided : Cal P w K mg base 1 "_law_sided" ["rows", "sides"] (c__law_sided K) := cal_of (t := r__law_sided K) (He5.fun_of F__law_sided) sc__law_sided (He.glo_ok X G (c.fact 26 (f := .glo "_law_sided") rfl)) (FunD.bindsN (ps := ["rows", "sides"]) F__law_sided fun _ _ _ _ _ _ us hl => match us, hl with | [_, _], _ => rfl) (fun ss o Rt Xt c => by obtain ⟨_, _, _, rfl, _⟩ := c; rfl) (fun hr => d__law_sided T   hr) (fun B W ss o Rt Xt hB c hX => w__law_sided c)
  obtain ⟨fd__law_own, F0__law_own⟩ := c.def_ 27 (d := D__law_own) rfl
  have F__law_own : FunD K "_law_own" "_law_own" (defArgs s__law_own) (defBody s__law_own) (defScope s__law_own) [] [] (He.ga K "_law_own") fd__law_own := F0__law_own
  have C__law_own : Cal P w K mg base 2 "_law_own" ["kind", "names", "first", "last", "numbers"] (c__law_own K) := cal_of (t := r__law_own K) (He5.fun_of F__law_own) sc__law_own (He.glo_ok X G (c.fact 27 (f := .glo "_law_own") rfl)) (FunD.bindsN (ps := ["kind", "names", "first", "last", "numbers"]) F__law_own fun _ _ _ _ _ _ us hl => match us, hl with | [_, _, _, _, _], _ => rfl) (fun ss o Rt Xt c => by obtain ⟨_, _, _, _, _, _, _, _, _, _, rfl, _⟩ := c; rfl) (fun hr => d__law_own T C__law_at  hr) (fun B W ss o Rt Xt hB c hX => w__law_own hB c)
  obtain ⟨fd__law_meaning, F0__law_meaning⟩ := c.def_ 28 (d := D__law_meaning) rfl
  have F__law_meaning : FunD K "_law_meaning" "_law_meaning" (defArgs s__law_meaning) (defBody s__law_meaning) (defScope s__law_meaning) [] [] (He.ga K "_law_meaning") fd__law_meaning := F0__law_meaning
  have C__law_meaning : Cal P w K mg base 2 "_law_meaning" ["kind", "names", "first", "last", "numbers", "values"] (c__law_meaning K) := cal_of (t := r__law_meaning K) (He5.fun_of F__law_meaning) sc__law_meaning (He.glo_ok X G (c.fact 28 (f := .glo "_law_meaning") rfl)) (FunD.bindsN (ps := ["kind", "names", "first", "last", "numbers", "values"]) F__law_meaning fun _ _ _ _ _ _ us hl => match us, hl with | [_, _, _, _, _, _], _ => rfl) (fun ss o Rt Xt c => by obtain ⟨_, _, _, _, _, _, _, _, _, _, _, rfl, _⟩ := c; rfl) (fun hr => d__law_meaning T C__law_at  hr) (fun B W ss o Rt Xt hB c hX => w__law_meaning c)
  obtain ⟨fd__law_call, F0__law_call⟩ := c.def_ 29 (d := D__law_call) rfl
  have F__law_call : FunD K "_law_call" "_law_call" (defArgs s__law_call) (defBody s__law_call) (defScope s__law_call) [] [] (He.ga K "_law_call") fd__law_call := F0__law_call
  have C__law_call : Cal P w K mg base 6 "_law_call" ["kind", "names", "first", "last", "numbers", "sides"] (c__law_call K) := cal_of (t := r__law_call K) (He5.fun_of F__law_call) sc__law_call (He.glo_ok X G (c.fact 29 (f := .glo "_law_call") rfl)) (FunD.bindsN (ps := ["kind", "names", "first", "last", "numbers", "sides"]) F__law_call fun _ _ _ _ _ _ us hl => match us, hl with | [_, _, _, _, _, _], _ => rfl) (fun ss o Rt Xt c => by obtain ⟨_, _, _, _, _, _, _, _, _, _, _, _, _, _, _, _, rfl, _⟩ := c; rfl) (fun hr => d__law_call T C_after_rows C_due_rows C_line_rows C_loss_rows C_road_letters C_stock_rows C_turn_rows C_watch_sights C_within_rows  hr) (fun B W ss o Rt Xt hB c hX => w__law_call hB c hX)
  obtain ⟨fd__law_asked, F0__law_asked⟩ := c.def_ 30 (d := D__law_asked) rfl
  have F__law_asked : FunD K "_law_asked" "_law_asked" (defArgs s__law_asked) (defBody s__law_asked) (defScope s__law_asked) [] [] (He.ga K "_law_asked") fd__law_asked := F0__law_asked
  have C__law_asked : Cal P w K mg base 7 "_law_asked" ["kind", "names", "first", "last", "numbers", "sides"] (c__law_asked K) := cal_of (t := r__law_asked K) (He5.fun_of F__law_asked) sc__law_asked (He.glo_ok X G (c.fact 30 (f := .glo "_law_asked") rfl)) (FunD.bindsN (ps := ["kind", "names", "first", "last", "numbers", "sides"]) F__law_asked fun _ _ _ _ _ _ us hl => match us, hl with | [_, _, _, _, _, _], _ => rfl) (fun ss o Rt Xt c => by obtain ⟨_, _, _, _, _, _, _, _, _, _, _, _, _, _, _, _, rfl, _⟩ := c; rfl) (fun hr => d__law_asked T C__law_call  hr) (fun B W ss o Rt Xt hB c hX => w__law_asked T hB c)
  obtain ⟨fd__law_gap, F0__law_gap⟩ := c.def_ 31 (d := D__law_gap) rfl
  have F__law_gap : FunD K "_law_gap" "_law_gap" (defArgs s__law_gap) (defBody s__law_gap) (defScope s__law_gap) [] [] (He.ga K "_law_gap") fd__law_gap := F0__law_gap
  have C__law_gap : Cal P w K mg base 2 "_law_gap" ["values", "names", "first", "last", "least"] (c__law_gap K) := cal_of (t := r__law_gap K) (He5.fun_of F__law_gap) sc__law_gap (He.glo_ok X G (c.fact 31 (f := .glo "_law_gap") rfl)) (FunD.bindsN (ps := ["values", "names", "first", "last", "least"]) F__law_gap fun _ _ _ _ _ _ us hl => match us, hl with | [_, _, _, _, _], _ => rfl) (fun ss o Rt Xt c => by obtain ⟨_, _, _, _, _, _, _, _, rfl, _⟩ := c; rfl) (fun hr => d__law_gap T C__law_at  hr) (fun B W ss o Rt Xt hB c hX => w__law_gap c)
  obtain ⟨fd__law_numbers, F0__law_numbers⟩ := c.def_ 32 (d := D__law_numbers) rfl
  have F__law_numbers : FunD K "_law_numbers" "_law_numbers" (defArgs s__law_numbers) (defBody s__law_numbers) (defScope s__law_numbers) [] [] (He.ga K "_law_numbers") fd__law_numbers := F0__law_numbers
  have C__law_numbers : Cal P w K mg base 3 "_law_numbers" ["purse", "kind", "names", "first", "last", "values"] (c__law_numbers K) := cal_of (t := r__law_numbers K) (He5.fun_of F__law_numbers) sc__law_numbers (He.glo_ok X G (c.fact 32 (f := .glo "_law_numbers") rfl)) (FunD.bindsN (ps := ["purse", "kind", "names", "first", "last", "values"]) F__law_numbers fun _ _ _ _ _ _ us hl => match us, hl with | [_, _, _, _, _, _], _ => rfl) (fun ss o Rt Xt c => by obtain ⟨_, _, _, _, _, _, _, _, rfl, _⟩ := c; rfl) (fun hr => d__law_numbers T C__law_at C__law_draw C__law_gap  hr) (fun B W ss o Rt Xt hB c hX => w__law_numbers c)
  obtain ⟨fd__law_counted, F0__law_counted⟩ := c.def_ 33 (d := D__law_counted) rfl
  have F__law_counted : FunD K "_law_counted" "_law_counted" (defArgs s__law_counted) (defBody s__law_counted) (defScope s__law_counted) [] [] (He.ga K "_law_counted") fd__law_counted := F0__law_counted
  have C__law_counted : Cal P w K mg base 8 "_law_counted" ["purse", "kind"] (c__law_counted K) := cal_of (t := r__law_counted K) (He5.fun_of F__law_counted) sc__law_counted (He.glo_ok X G (c.fact 33 (f := .glo "_law_counted") rfl)) (FunD.bindsN (ps := ["purse", "kind"]) F__law_counted fun _ _ _ _ _ _ us hl => match us, hl with | [_, _], _ => rfl) (fun ss o Rt Xt c => by obtain ⟨_, _, rfl, _⟩ := c; rfl) (fun hr => d__law_counted T C__law_asked C__law_at C__law_counts C__law_draw C__law_keeps C__law_meaning C__law_numbers C__law_own C__law_sided C__law_sides C__law_span C__law_words  hr) (fun B W ss o Rt Xt hB c hX => w__law_counted hB c)
  obtain ⟨fd__law_lined, F0__law_lined⟩ := c.def_ 34 (d := D__law_lined) rfl
  have F__law_lined : FunD K "_law_lined" "_law_lined" (defArgs s__law_lined) (defBody s__law_lined) (defScope s__law_lined) [] [] (He.ga K "_law_lined") fd__law_lined := F0__law_lined
  have C__law_lined : Cal P w K mg base 8 "_law_lined" ["purse"] (c__law_lined K) := cal_of (t := r__law_lined K) (He5.fun_of F__law_lined) sc__law_lined (He.glo_ok X G (c.fact 34 (f := .glo "_law_lined") rfl)) (FunD.bindsN (ps := ["purse"]) F__law_lined fun _ _ _ _ _ _ us hl => match us, hl with | [_], _ => rfl) (fun ss o Rt Xt c => by obtain ⟨_, rfl, _⟩ := c; rfl) (fun hr => d__law_lined T C__law_asked C__law_at C__law_draw C__law_keeps C__law_number C__law_span C__law_word  hr) (fun B W ss o Rt Xt hB c hX => w__law_lined hB c)
  obtain ⟨fd__law_sent, F0__law_sent⟩ := c.def_ 35 (d := D__law_sent) rfl
  have F__law_sent : FunD K "_law_sent" "_law_sent" (defArgs s__law_sent) (defBody s__law_sent) (defScope s__law_sent) [] [] (He.ga K "_law_sent") fd__law_sent := F0__law_sent
  have C__law_sent : Cal P w K mg base 8 "_law_sent" ["purse"] (c__law_sent K) := cal_of (t := r__law_sent K) (He5.fun_of F__law_sent) sc__law_sent (He.glo_ok X G (c.fact 35 (f := .glo "_law_sent") rfl)) (FunD.bindsN (ps := ["purse"]) F__law_sent fun _ _ _ _ _ _ us hl => match us, hl with | [_], _ => rfl) (fun ss o Rt Xt c => by obtain ⟨_, rfl, _⟩ := c; rfl) (fun hr => d__law_sent T C__law_asked C__law_draw C__law_span C__law_word  hr) (fun B W ss o Rt Xt hB c hX => w__law_sent c)
  obtain ⟨fd__law_refused, F0__law_refused⟩ := c.def_ 36 (d := D__law_refused) rfl
  have F__law_refused : FunD K "_law_refused" "_law_refused" (defArgs s__law_refused) (defBody s__law_refused) (defScope s__law_refused) [] [] (He.ga K "_law_refused") fd__law_refused := F0__law_refused
  have C__law_refused : Cal P w K mg base 8 "_law_refused" ["purse", "kind"] (c__law_refused K) := cal_of (t := r__law_refused K) (He5.fun_of F__law_refused) sc__law_refused (He.glo_ok X G (c.fact 36 (f := .glo "_law_refused") rfl)) (FunD.bindsN (ps := ["purse", "kind"]) F__law_refused fun _ _ _ _ _ _ us hl => match us, hl with | [_, _], _ => rfl) (fun ss o Rt Xt c => by obtain ⟨_, _, rfl, _⟩ := c; rfl) (fun hr => d__law_refused T C__law_asked C__law_draw  hr) (fun B W ss o Rt Xt hB c hX => w__law_refused c)
  exact Fun.okX (He5.fun_of FL) sc_law (fun vs H Q E h => by obtain ⟨a, ns, rfl, _⟩ := h; rfl) (fun cdv A outer s H vs Q E hr h => ⟨_, d_law T C__law_counted C__law_lined C__law_purse C__law_refused C__law_sent  hr, sp_law h⟩)
abbrev RR : PySem.W.OpenRow := PySem.W.OpenLaw.row PySem.Challenge.rw_forcedapart_k03_patterns_by_their_plain
def asY (g : Addr → Option Obj) : List Addr := cStatics :: He.asD g 6
def obsY (g : Addr → Option Obj) : He.AlD × Bool := (He.obsD fa fn (He.frG g (asY g)), ex (He.frG g (asY g)))
def hk : PySem.W.Hook where
  α := He.AlD × Bool
  obs := fun s => obsY s.heap.get?
  val := fun _ => (He.valD fn, true)
  says := fun _ h => ∃ K : PySem.W.Frag, K.In h ∧ He.SaysD fa fn K ∧ ex K = true
  of := fun _ _ e => ⟨_, He.frG_in, congrArg (fun z : He.AlD × Bool => z.1) e, congrArg (fun z : He.AlD × Bool => z.2) e⟩
  keeps := fun _ _ _ ⟨K, hK, c⟩ k => ⟨K, PySem.W.Frag.In.keeps hK k, c⟩
def ob (s : PySem.W.SharedT) : He.AlD × Bool := obsY (HandSHeadRun.getT s)
theorem ob_eq (s : PySem.W.SharedT) : ob s = hk.obs s.abs := by
  have e : HandSHeadRun.getT s = s.abs.heap.get? := funext (HandSHeadRun.getT_eq s)
  unfold ob
  rw [e] <;> rfl
def names : List PySem.Str := (["ApartError", "TooMany", "BadPattern", "MOMENTS", "NUMBERS", "check_most", "check_numbers", "FIRSTS", "REST", "WORD_LENGTH", "is_word", "check_pattern", "at_moment", "below_zero", "crossed", "line_rows", "after_rows", "within_rows", "due_rows", "turn_rows", "road_letters", "watch_sights", "stock_rows", "loss_rows", "_law_purse", "_law_draw", "_law_word", "_law_words", "_law_sides", "_law_number"] : List PySem.Str) ++ (["_law_at", "_law_keeps", "_law_counts", "_law_span", "_law_sided", "_law_own", "_law_meaning", "_law_call", "_law_asked", "_law_gap", "_law_numbers", "_law_counted", "_law_lined", "_law_sent", "_law_refused"] : List PySem.Str)
theorem run (w : World) : HandSHeadRun.RunEq RR (PySem.W.view RR.prog [51]) hk ob 4000 names w := by
  intro os
  kernel_rfl
def CXE (P : Program) : CXT := fun outer H s E u s' => ∃ w, L2.CX P w outer H s E u s'
theorem fn_cx {P : Program} {w : World} {K : PySem.W.Frag} {mg : Str → Option Value} {base : Heap} {k : Nat} {f : Addr} {fd : FuncData} {ps : List Str} {sp : Sp} (F : FnOk P w K mg base (L2.CX P w) k f fd ps sp) : FnOk P w K mg base (CXE P) k f fd ps sp :=
  ⟨F.len, fun A outer s H args us vs Q E hr he hb hv hs => codeAny_mono (F.run A outer s H args us vs Q E hr he hb hv hs) fun r s' hq => by
    cases r with
    | error u => exact ⟨w, hq⟩
    | ok fl => cases fl <;> exact hq⟩
theorem facts {P : Program} {w : World} {K : PySem.W.Frag} {h : Heap} {mg : Str → Option Value} {f : Addr} (X : K.In h) (G : h.Ns mainGlobals mg) (hfa : mg ("law" : Str) = some (.ref f)) (c : He.SaysD fa fn K) (e : ex K = true) :
    ∃ fd : FuncData, (∀ (s : Shared) (v : Value), BindsTo s fd ⟨[v], []⟩ [("script", v)]) ∧ ∀ base : Heap, K.In base → base.Ns mainGlobals mg → FnOk P w K mg base (CXE P) 9 f fd ["script"] (spLaw K) := by
  obtain ⟨fd, F⟩ := c.def_ 37 (d := D_law) rfl
  have e0 := hfa.symm.trans (He.glo_ok X G (c.fact 37 (f := .glo "law") rfl))
  cases e0
  have b := FunD.bindsA (ps := ["script"]) F fun _ _ _ _ _ _ us hl => match us, hl with | [_], _ => rfl
  exact ⟨fd, fun s v => b s [v] rfl, fun base KX GX => fn_cx (law_ok KX GX c e F)⟩

end K03
end AB
set_option maxHeartbeats 0
open PySem PySem.W PySem.Calls PyProof.Rows
theorem PySem.Challenge.cw_forcedapart_k03_patterns_by_their_plain_holds : PySem.Challenge.rw_forcedapart_k03_patterns_by_their_plain.Holds := by
  w_on; o_law
  refine HandSHeadRun.head_any (r := OpenLaw.row PySem.Challenge.rw_forcedapart_k03_patterns_by_their_plain) (q := view (OpenLaw.row PySem.Challenge.rw_forcedapart_k03_patterns_by_their_plain).prog [51]) (H := AB.K03.hk) (ob := AB.K03.ob) (M := 4000) (loose := AB.K03.names) (d := HandSHeadRun.topDef (OpenLaw.row PySem.Challenge.rw_forcedapart_k03_patterns_by_their_plain).prog 51) (kwd := []) AB.K03.ob_eq
    (by kernel_rfl) (fun s => by kernel_rfl) AB.K03.run (by kernel_rfl) (by kernel_rfl) (by kernel_rfl) (by rfl) (by first | assumption | decide +kernel) (by decide +kernel) ⟨rfl, rfl, rfl, rfl, rfl, by decide +kernel⟩ ?hw ?hc
  case hw => w_witness2
  case hc =>
    refine L2.walk_ofE (l := PySem.Challenge.rw_forcedapart_k03_patterns_by_their_plain) (n := 63) (k := 9) (x := "script") (CX := AB.K03.CXE (PySem.Challenge.rw_forcedapart_k03_patterns_by_their_plain).prog) rfl (by decide) (by kernel_rfl) ⟨rfl, by decide, by decide⟩ ?F (fun _ _ _ _ z => by
      obtain ⟨w, z⟩ := z
      obtain ⟨_, _, _, _, _, _, _, _, _, _, _, _, z⟩ := z
      exact z.elim)
    intro w mg fa h Y G hmg0
    obtain ⟨K, KX, c, ce⟩ := Y
    have hmg : mg ("law" : PySem.Str) = some (.ref fa) := by
      have e : (HandSHeadRun.topDef (OpenLaw.row PySem.Challenge.rw_forcedapart_k03_patterns_by_their_plain).prog 51).name = ("law" : PySem.Str) := by kernel_rfl
      rw [← e]
      exact hmg0
    obtain ⟨fd, hb, hF⟩ := AB.K03.facts (P := (PySem.Challenge.rw_forcedapart_k03_patterns_by_their_plain).prog) (w := w) KX G hmg c ce
    exact ⟨K, fd, AB.K03.spLaw K, KX, hb, fun H a ns hl _ hS => ⟨a, ns, rfl, by omega, hS, fun _ => rfl⟩, hF⟩
