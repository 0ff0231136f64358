import PyProof.Rows.All
import Wide.All
import OpenK.AllK
import Wide.FinOn
import HandS.ForMost
import HandS.ForExc
import HandS.CallSlots
import HandS.Walk
import KE.KeyNested
import HandS.TupAny
import HandS.IsInst
import HandS.Conv
import KE.GoesMore
import KE.GoesEnum
import HandS.Nested
import HandS.ExcInit
import KE.KExcSuper
import HandS.ExcField
import HandS.ExcIs
import HandS.Zip
import HandS.Style
import HandS.Dict
import HandS.DictComp
import HandS.Iter
import HandS.Strs
import HandS.SetFor
import HandS.SortInts
import HandS.Set
import HandS.SortOrd
import KE.GoesZip
import HandS.SortKw
import HandS.TupMul
import KE.KExcIs
import PyProof.Rows.IntBool
import HandS.HotCalls
import HandS.TryOnly
import PyProof.P3In
import HandS.RaiseMore
import KE.SortData
import PyProof.DictMoreH
import PyProof.Rows.TupTab
import KE.KDictZip
import HandS.ListItems
import HandS.More
import HandS.Defaults
import PyProof.ReprRoads
import HandS.Ends
import KE.KDictDisplayH
import HandS.DictEq
import KE.KTupSum
import HandS.Text
import HandS.StrMore
import KE.RegKIsAll
import PySem.Challenge.RW_movedwhole_k05_texts_of_worlds
set_option Elab.async false
set_option linter.all false
set_option maxRecDepth 100000
set_option maxHeartbeats 1000000
namespace ML
open PySem PySem.Spec PyProof.Rows L2
inductive P where
  | non | bl (b : Bool) | int (i : Int) | str (s : Str) | tup (xs : List P) | fl (xs : List P) | fi (c : Nat) (xs : List P)
inductive D where
  | p (x : P) | ref (n : Nat) | xv (c : Nat) (xs : List P)
inductive Ob where
  | ls (xs : List P) | lr (ns : List Nat) | dc (kvs : List (Key × P)) | dt (kvs : List (NestedKey × P)) | fz (kvs : List (Key × P)) | fn (kvs : List (NestedKey × P)) | gone | ins (c : Nat) (fs : List (Str × D)) | tp (ds : List D)
structure Hot where
  a : Addr
  c : Nat
  dd : Addr
structure Gd where
  K : PySem.W.Frag
  cls : Nat → Addr
  flds : Nat → List Str
  hot : Option Hot := none
  hsh : NestedKey → Int := fun _ => 0
def nkP : NestedKey → P
  | .none => .non
  | .num i => .int i
  | .text x => .str x
  | .tup ks => .tup (nkPs ks)
where nkPs : List NestedKey → List P
  | [] => []
  | k :: ks => nkP k :: nkPs ks
def DnAt (hs : NestedKey → Int) (xs : List (NestedKey × Addr × V)) (a : Addr) (h : Heap) : Prop := xs.length ≤ sizeLine ∧ (a == sysModules) = false ∧ (xs.map (·.1)).Nodup ∧ (∀ x ∈ xs, x.1.depth ≤ 8) ∧
  ∃ (o : Obj) (es : Array DictEntry) (ep : Nat) (ys : List (NestedKey × Addr × Value)), h.get? a = some o ∧ o.ExactDict ∧ o.data = .dict es ep ∧
    Paired (fun (x : NestedKey × Addr × V) (y : NestedKey × Addr × Value) => x.1 = y.1 ∧ x.2.1 = y.2.1 ∧ RelV x.2.2 y.2.2) xs ys ∧ es.toList = ys.map fun y => ⟨hs y.1, .ref y.2.1, y.2.2⟩
def SqF (K : PySem.W.Frag) (H : Hp) (a : Addr) (xs : List V) : Prop :=
  (∃ o, H a = some (.frz o (.lst xs))) ∨
    ∃ (o : Obj) (its : Array Value) (n : Nat), K.lookup a = some o ∧ o.cls = .type "list" ∧ o.dict = none ∧ o.data = .seq its n ∧ its.size ≤ sizeLine ∧ Vals xs its.toList
theorem SqF.sq {K : PySem.W.Frag} {H : Hp} {a : Addr} {xs : List V} (h : SqF K H a xs) : SqL K H a xs := by
  rcases h with h | h
  · exact .inl (.inr h)
  · exact .inr h
def immO : HO → Bool
  | .tup _ => true
  | .frz _ _ => true
  | .xd _ => true
  | _ => false
def Imm (H H' : Hp) : Prop := ∀ b o, H b = some o → immO o = true → H' b = some o
theorem Imm.refl (H : Hp) : Imm H H := fun _ _ h _ => h
theorem Imm.trans {H H1 H2 : Hp} (a : Imm H H1) (b : Imm H1 H2) : Imm H H2 := fun c o h i => b c o (a c o h i) i
theorem Same.imm {H H' : Hp} (s : Same H H') : Imm H H' := fun b o h _ => s b o h
theorem Imm.sqF {K : PySem.W.Frag} {H H' : Hp} {a : Addr} {xs : List V} (m : Imm H H') (h : SqF K H a xs) : SqF K H' a xs := by
  rcases h with ⟨o, h⟩ | h
  · exact .inl ⟨o, m _ _ h rfl⟩
  · exact .inr h
theorem Imm.sqT {K : PySem.W.Frag} {H H' : Hp} {a : Addr} {xs : List V} (m : Imm H H') (h : SqT K H a xs) : SqT K H' a xs := by
  rcases h with (h | ⟨o, h⟩) | h
  · exact .inl (.inl (m _ _ h rfl))
  · exact .inl (.inr ⟨o, m _ _ h rfl⟩)
  · exact .inr h
mutual
def Rep (G : Gd) (H : Hp) : V → P → Prop
  | v, .non => v = .non
  | v, .bl b => v = .bl b
  | v, .int i => v = .int i
  | v, .str s => v = .str s
  | v, .tup xs => ∃ p vs, v = .ref p ∧ SqT G.K H p vs ∧ RepL G H vs xs
  | v, .fl xs => ∃ p vs, v = .ref p ∧ SqF G.K H p vs ∧ RepL G H vs xs
  | v, .fi c xs => ∃ p dx o fs, v = .ref p ∧ H p = some (.frz o (.ins (G.cls c) dx fs)) ∧ fs.map (·.1) = G.flds c ∧ RepL G H (fs.map (·.2)) xs
def RepL (G : Gd) (H : Hp) : List V → List P → Prop
  | [], [] => True
  | v :: vs, x :: xs => Rep G H v x ∧ RepL G H vs xs
  | _, _ => False
end
section
variable {G : Gd} {H H' : Hp}
mutual
theorem Rep.mono (m : Imm H H') : ∀ {v : V} (x : P), Rep G H v x → Rep G H' v x
  | _, .non, h => by unfold Rep at h ⊢; exact h
  | _, .bl b, h => by unfold Rep at h ⊢; exact h
  | _, .int i, h => by unfold Rep at h ⊢; exact h
  | _, .str s, h => by unfold Rep at h ⊢; exact h
  | _, .tup xs, h => by
    unfold Rep at h ⊢
    obtain ⟨p, vs, e, s, r⟩ := h
    exact ⟨p, vs, e, m.sqT s, RepL.mono m xs r⟩
  | _, .fl xs, h => by
    unfold Rep at h ⊢
    obtain ⟨p, vs, e, s, r⟩ := h
    exact ⟨p, vs, e, m.sqF s, RepL.mono m xs r⟩
  | _, .fi c xs, h => by
    unfold Rep at h ⊢
    obtain ⟨p, dx, o, fs, e, s, q, r⟩ := h
    exact ⟨p, dx, o, fs, e, m _ _ s rfl, q, RepL.mono m xs r⟩
theorem RepL.mono (m : Imm H H') : ∀ {vs : List V} (xs : List P), RepL G H vs xs → RepL G H' vs xs
  | [], [], _ => by unfold RepL; trivial
  | v :: vs, x :: xs, h => by
    unfold RepL at h ⊢
    exact ⟨Rep.mono m x h.1, RepL.mono m xs h.2⟩
  | [], _ :: _, h => by unfold RepL at h; exact h.elim
  | _ :: _, [], h => by unfold RepL at h; exact h.elim
end
theorem RepL.nil : RepL G H [] [] := by unfold RepL; trivial
theorem RepL.cons {v : V} {vs : List V} {x : P} {xs : List P} (h : Rep G H v x) (t : RepL G H vs xs) : RepL G H (v :: vs) (x :: xs) := by unfold RepL; exact ⟨h, t⟩
theorem RepL.cons_inv {vs : List V} {x : P} {xs : List P} (h : RepL G H vs (x :: xs)) : ∃ v ws, vs = v :: ws ∧ Rep G H v x ∧ RepL G H ws xs := by
  cases vs with
  | nil => unfold RepL at h; exact h.elim
  | cons v ws => unfold RepL at h; exact ⟨v, ws, rfl, h.1, h.2⟩
theorem RepL.nil_inv {vs : List V} (h : RepL G H vs []) : vs = [] := by
  cases vs with
  | nil => rfl
  | cons v ws => unfold RepL at h; exact h.elim
theorem RepL.length : ∀ {vs : List V} {xs : List P}, RepL G H vs xs → vs.length = xs.length
  | vs, [], h => by rw [h.nil_inv]; rfl
  | vs, x :: xs, h => by
    obtain ⟨v, ws, rfl, _, t⟩ := h.cons_inv
    simp [RepL.length t]
theorem RepL.get : ∀ {vs : List V} {xs : List P} {i : Nat} {x : P}, RepL G H vs xs → xs[i]? = some x → ∃ v, vs[i]? = some v ∧ Rep G H v x
  | vs, [], i, x, h, e => by simp at e
  | vs, y :: xs, 0, x, h, e => by
    obtain ⟨v, ws, rfl, r, t⟩ := h.cons_inv
    simp at e; subst e
    exact ⟨v, rfl, r⟩
  | vs, y :: xs, i + 1, x, h, e => by
    obtain ⟨v, ws, rfl, r, t⟩ := h.cons_inv
    obtain ⟨u, h1, h2⟩ := RepL.get (i := i) t (by simpa using e)
    exact ⟨u, by simpa using h1, h2⟩
theorem RepL.getV : ∀ {vs : List V} {xs : List P} {i : Nat} {v : V}, RepL G H vs xs → vs[i]? = some v → ∃ x, xs[i]? = some x ∧ Rep G H v x
  | vs, [], i, v, h, e => by rw [h.nil_inv] at e; simp at e
  | vs, y :: xs, 0, v, h, e => by
    obtain ⟨v, ws, rfl, r, t⟩ := h.cons_inv
    simp at e; subst e
    exact ⟨y, rfl, r⟩
  | vs, y :: xs, i + 1, v, h, e => by
    obtain ⟨w, ws, rfl, r, t⟩ := h.cons_inv
    obtain ⟨u, h1, h2⟩ := RepL.getV (i := i) t (by simpa using e)
    exact ⟨u, by simpa using h1, h2⟩
theorem RepL.append : ∀ {vs ws : List V} {xs ys : List P}, RepL G H vs xs → RepL G H ws ys → RepL G H (vs ++ ws) (xs ++ ys)
  | vs, ws, [], ys, h, t => by rw [h.nil_inv]; exact t
  | vs, ws, x :: xs, ys, h, t => by
    obtain ⟨v, us, rfl, r, q⟩ := h.cons_inv
    exact RepL.cons r (RepL.append q t)
theorem RepL.one {v : V} {x : P} (h : Rep G H v x) : RepL G H [v] [x] := RepL.cons h RepL.nil
theorem RepL.take : ∀ {vs : List V} {xs : List P} (n : Nat), RepL G H vs xs → RepL G H (vs.take n) (xs.take n)
  | _, _, 0, _ => by simpa using RepL.nil
  | vs, [], n + 1, h => by rw [h.nil_inv]; simpa using RepL.nil
  | vs, x :: xs, n + 1, h => by
    obtain ⟨v, us, rfl, r, q⟩ := h.cons_inv
    simpa using RepL.cons r (RepL.take n q)
theorem RepL.drop : ∀ {vs : List V} {xs : List P} (n : Nat), RepL G H vs xs → RepL G H (vs.drop n) (xs.drop n)
  | _, _, 0, h => by simpa using h
  | vs, [], n + 1, h => by rw [h.nil_inv]; simpa using RepL.nil
  | vs, x :: xs, n + 1, h => by
    obtain ⟨v, us, rfl, r, q⟩ := h.cons_inv
    simpa using RepL.drop n q
theorem RepL.set : ∀ {vs : List V} {xs : List P} (n : Nat) {v : V} {x : P}, Rep G H v x → RepL G H vs xs → RepL G H (vs.set n v) (xs.set n x)
  | vs, [], n, v, x, _, h => by rw [h.nil_inv]; simpa using RepL.nil
  | vs, y :: xs, 0, v, x, r0, h => by
    obtain ⟨w, us, rfl, r, q⟩ := h.cons_inv
    simpa using RepL.cons r0 q
  | vs, y :: xs, n + 1, v, x, r0, h => by
    obtain ⟨w, us, rfl, r, q⟩ := h.cons_inv
    simpa using RepL.cons r (RepL.set n r0 q)
theorem RepL.reverse : ∀ {vs : List V} {xs : List P}, RepL G H vs xs → RepL G H vs.reverse xs.reverse
  | vs, [], h => by rw [h.nil_inv]; simpa using RepL.nil
  | vs, x :: xs, h => by
    obtain ⟨v, us, rfl, r, q⟩ := h.cons_inv
    simpa using RepL.append (RepL.reverse q) (RepL.one r)
theorem RepL.rep {vs : List V} {xs : List P} (h : RepL G H vs xs) : ∀ k : Nat, RepL G H (List.replicate k vs).flatten (List.replicate k xs).flatten
  | 0 => by simpa using RepL.nil
  | k + 1 => by simpa [List.replicate_succ] using RepL.append h (RepL.rep h k)
theorem RepL.ints : ∀ {vs : List V} {ns : List Int}, RepL G H vs (ns.map P.int) → vs = ns.map V.int
  | vs, [], h => h.nil_inv
  | vs, n :: ns, h => by
    obtain ⟨v, us, rfl, r, q⟩ := h.cons_inv
    unfold Rep at r
    rw [r, RepL.ints q]; rfl
theorem RepL.of_ints : ∀ {ns : List Int}, RepL G H (ns.map V.int) (ns.map P.int)
  | [] => RepL.nil
  | n :: ns => RepL.cons (by unfold Rep; rfl) RepL.of_ints
theorem RepL.bls : ∀ {vs : List V} {ns : List Bool}, RepL G H vs (ns.map P.bl) → vs = ns.map V.bl
  | vs, [], h => h.nil_inv
  | vs, n :: ns, h => by
    obtain ⟨v, us, rfl, r, q⟩ := h.cons_inv
    unfold Rep at r
    rw [r, RepL.bls q]; rfl
theorem RepL.strs : ∀ {vs : List V} {ns : List Str}, RepL G H vs (ns.map P.str) → vs = ns.map V.str
  | vs, [], h => h.nil_inv
  | vs, n :: ns, h => by
    obtain ⟨v, us, rfl, r, q⟩ := h.cons_inv
    unfold Rep at r
    rw [r, RepL.strs q]; rfl
theorem RepL.of_strs : ∀ {ns : List Str}, RepL G H (ns.map V.str) (ns.map P.str)
  | [] => RepL.nil
  | n :: ns => RepL.cons (by unfold Rep; rfl) RepL.of_strs
end
def ExR (G : Gd) (H : Hp) (d : Addr) (c : Nat) (xs : List P) : Prop := ∃ fs : List (Str × V), H d = some (.xd fs) ∧ fs.map (·.1) = G.flds c ∧ RepL G H (fs.map (·.2)) xs
theorem ExR.mono {G : Gd} {H H' : Hp} {d : Addr} {c : Nat} {xs : List P} (m : Imm H H') (h : ExR G H d c xs) : ExR G H' d c xs := by
  obtain ⟨fs, e, n, r⟩ := h
  exact ⟨fs, m _ _ e rfl, n, RepL.mono m xs r⟩
def RepD (G : Gd) (H : Hp) (μ : List Addr) (v : V) : D → Prop
  | .p x => Rep G H v x
  | .ref n => ∃ a, μ[n]? = some a ∧ v = .ref a
  | .xv c xs => ∃ h, G.hot = some h ∧ h.c = c ∧ v = .ref h.a ∧ ExR G H h.dd c xs
def RepDs (G : Gd) (H : Hp) (μ : List Addr) : List V → List D → Prop
  | [], [] => True
  | v :: vs, x :: xs => RepD G H μ v x ∧ RepDs G H μ vs xs
  | _, _ => False
def RepO (G : Gd) (H : Hp) (μ : List Addr) (a : Addr) : Ob → Prop
  | .ls xs => ∃ vs, H a = some (.lst vs) ∧ RepL G H vs xs
  | .lr ns => ∃ as : List Addr, H a = some (.lst (as.map V.ref)) ∧ as.map some = ns.map fun n => μ[n]?
  | .dc kvs => ∃ ks : List (Key × V), H a = some (.dK ks) ∧ ks.map (·.1) = kvs.map (·.1) ∧ RepL G H (ks.map (·.2)) (kvs.map (·.2))
  | .dt kvs => ∃ xs : List (NestedKey × Addr × V), H a = some (.ext (DnAt G.hsh xs a)) ∧ xs.map (·.1) = kvs.map (·.1) ∧ RepL G H (xs.map fun x => V.ref x.2.1) (kvs.map fun kv => nkP kv.1) ∧ RepL G H (xs.map (·.2.2)) (kvs.map (·.2))
  | .fz kvs => ∃ (ob : Obj) (ks : List (Key × V)), H a = some (.frz ob (.dK ks)) ∧ ks.map (·.1) = kvs.map (·.1) ∧ RepL G H (ks.map (·.2)) (kvs.map (·.2))
  | .fn kvs => ∃ (ob : Obj) (xs : List (NestedKey × Addr × V)), H a = some (.frz ob (.ext (DnAt G.hsh xs a))) ∧ xs.map (·.1) = kvs.map (·.1) ∧ RepL G H (xs.map fun x => V.ref x.2.1) (kvs.map fun kv => nkP kv.1) ∧ RepL G H (xs.map (·.2.2)) (kvs.map (·.2))
  | .gone => ∃ x, H a = some x
  | .ins c fs => ∃ dx gs, H a = some (.ins (G.cls c) dx gs) ∧ gs.map (·.1) = fs.map (·.1) ∧ RepDs G H μ (gs.map (·.2)) (fs.map (·.2))
  | .tp ds => ∃ vs, H a = some (.tup vs) ∧ RepDs G H μ vs ds
abbrev RH := List Ob
abbrev LEnv := List (Option D)
abbrev SV := List (Option V)
structure HeapRep (G : Gd) (H : Hp) (μ : List Addr) (η : RH) : Prop where
  len : μ.length = η.length
  nd : μ.Nodup
  ob : ∀ (n : Nat) (a : Addr) (o : Ob), μ[n]? = some a → η[n]? = some o → RepO G H μ a o
structure EnvRep (G : Gd) (H : Hp) (μ : List Addr) (σ : SV) (ρ : LEnv) : Prop where
  len : σ.length = ρ.length
  at' : ∀ (i : Nat) (d : D), ρ[i]? = some (some d) → ∃ v, σ[i]? = some (some v) ∧ RepD G H μ v d
structure Tr (H : Hp) (μ : List Addr) (H' : Hp) (μ' : List Addr) : Prop where
  imm : Imm H H'
  fr : ∀ b o, H b = some o → b ∉ μ → H' b = some o
  tk : ∀ b o, H b = some o → ∃ o', H' b = some o'
  pre : ∃ t, μ' = μ ++ t ∧ ∀ a ∈ t, H a = none
section
variable {G : Gd} {H H' H1 H2 : Hp} {μ μ' μ1 μ2 : List Addr}
theorem Tr.refl : Tr H μ H μ := ⟨Imm.refl _, fun _ _ h _ => h, fun _ o h => ⟨o, h⟩, [], by simp, fun _ h => nomatch h⟩
theorem Tr.none_of (a : Tr H μ H1 μ1) {x : Addr} (h : H1 x = none) : H x = none := by
  cases q : H x with
  | none => rfl
  | some o =>
    obtain ⟨o', e⟩ := a.tk x o q
    rw [h] at e; cases e
theorem Tr.trans (a : Tr H μ H1 μ1) (b : Tr H1 μ1 H2 μ2) : Tr H μ H2 μ2 := by
  obtain ⟨t, e, f⟩ := a.pre
  obtain ⟨t2, e2, f2⟩ := b.pre
  refine ⟨a.imm.trans b.imm, fun c o h n => b.fr c o (a.fr c o h n) ?_, fun c o h => ?_, t ++ t2, by rw [e2, e, List.append_assoc], fun x hx => ?_⟩
  · rw [e]
    intro hm
    rcases List.mem_append.mp hm with hm | hm
    · exact n hm
    · rw [f c hm] at h; cases h
  · obtain ⟨o', h'⟩ := a.tk c o h
    exact b.tk c o' h'
  · rcases List.mem_append.mp hx with hx | hx
    · exact f x hx
    · exact a.none_of (f2 x hx)
theorem Tr.same (s : Same H H') : Tr H μ H' μ := ⟨Same.imm s, fun b o h _ => s b o h, fun b o h => ⟨o, s b o h⟩, [], by simp, fun _ h => nomatch h⟩
theorem Tr.up {a : Addr} {o : HO} (n : H a = none) : Tr H μ (upd H a o) μ := Tr.same fun b u e => by rw [upd_ne (ne_of_none e n)]; exact e
theorem Tr.get (t : Tr H μ H' μ') {n : Nat} {a : Addr} (h : μ[n]? = some a) : μ'[n]? = some a := by
  obtain ⟨l, e, _⟩ := t.pre
  have hl : n < μ.length := (List.getElem?_eq_some_iff.mp h).1
  rw [e, List.getElem?_append_left hl]
  exact h
theorem RepD.mono (t : Tr H μ H' μ') {v : V} : ∀ {d : D}, RepD G H μ v d → RepD G H' μ' v d
  | .p x, h => Rep.mono t.imm x h
  | .ref n, ⟨a, e, q⟩ => ⟨a, t.get e, q⟩
  | .xv c xs, ⟨h, e1, e2, e3, q⟩ => ⟨h, e1, e2, e3, q.mono t.imm⟩
theorem RepDs.mono (t : Tr H μ H' μ') : ∀ {vs : List V} {ds : List D}, RepDs G H μ vs ds → RepDs G H' μ' vs ds
  | [], [], _ => trivial
  | v :: vs, d :: ds, h => ⟨h.1.mono t, RepDs.mono t h.2⟩
  | [], _ :: _, h => h.elim
  | _ :: _, [], h => h.elim
theorem EnvRep.mono (t : Tr H μ H' μ') {σ : SV} {ρ : LEnv} (e : EnvRep G H μ σ ρ) : EnvRep G H' μ' σ ρ :=
  ⟨e.len, fun i d h => let ⟨v, h1, h2⟩ := e.at' i d h; ⟨v, h1, h2.mono t⟩⟩
theorem RepDs.length : ∀ {vs : List V} {ds : List D}, RepDs G H μ vs ds → vs.length = ds.length
  | [], [], _ => rfl
  | v :: vs, d :: ds, h => by simp [RepDs.length h.2]
  | [], _ :: _, h => h.elim
  | _ :: _, [], h => h.elim
end
inductive Res (α : Type) where
  | ok (a : α) (η : RH)
  | ex (c : Nat) (xs : List P) (η : RH)
  | bad
def Res.bind {α β : Type} : Res α → (α → RH → Res β) → Res β
  | .ok a η, f => f a η
  | .ex c xs η, _ => .ex c xs η
  | .bad, _ => .bad
def Res.map {α β : Type} (f : α → β) : Res α → Res β
  | .ok a η => .ok (f a) η
  | .ex c xs η => .ex c xs η
  | .bad => .bad
theorem Res.bind_ok {α β : Type} {a : α} {η : RH} {f : α → RH → Res β} : (Res.ok a η).bind f = f a η := rfl
abbrev EM := LEnv → RH → Res D
abbrev TM := LEnv → RH → Res Bool
abbrev AM := LEnv → RH → Res (List D)
def Fin {α β : Type} (R : Hp → List Addr → β → α → Prop) (G : Gd) (W : WX) (σ : SV) (Q : β → Hp → Prop) (H : Hp) (μ : List Addr) : Res α → Prop
  | .ok a η => ∀ b H' μ', Tr H μ H' μ' → R H' μ' b a → HeapRep G H' μ' η → Q b H'
  | .ex c xs η => ∀ d H' μ', Tr H μ H' μ' → ExR G H' d c xs → HeapRep G H' μ' η → W (.ref (G.cls c)) (some d) σ H'
  | .bad => False
abbrev FinE (G : Gd) := Fin (RepD G) G
abbrev FinT (G : Gd) := Fin (fun (_ : Hp) (_ : List Addr) (a b : Bool) => a = b) G
abbrev FinA (G : Gd) := Fin (RepDs G) G
theorem Fin.mono {α β : Type} {R : Hp → List Addr → β → α → Prop} {G : Gd} {W : WX} {σ : SV} {Q : β → Hp → Prop} {H H1 : Hp} {μ μ1 : List Addr} {r : Res α} (h : Fin R G W σ Q H μ r) (t : Tr H μ H1 μ1) : Fin R G W σ Q H1 μ1 r := by
  cases r with
  | ok a η => exact fun b H' μ' t' r hr => h b H' μ' (t.trans t') r hr
  | ex c xs η => exact fun d H' μ' t' r hr => h d H' μ' (t.trans t') r hr
  | bad => exact h
def tM (G : Gd) (W : WX) (m : EM) : TE := fun σ H Q => ∃ ρ η μ, EnvRep G H μ σ ρ ∧ HeapRep G H μ η ∧ FinE G W σ Q H μ (m ρ η)
def tMT (G : Gd) (W : WX) (m : TM) : TT := fun σ H Q => ∃ ρ η μ, EnvRep G H μ σ ρ ∧ HeapRep G H μ η ∧ FinT G W σ Q H μ (m ρ η)
def tMA (G : Gd) (W : WX) (m : AM) : TA := fun σ H Q => ∃ ρ η μ, EnvRep G H μ σ ρ ∧ HeapRep G H μ η ∧ FinA G W σ Q H μ (m ρ η)
section
variable {G : Gd} {W : WX} {σ : SV} {H : Hp} {μ : List Addr} {ρ : LEnv} {η : RH}
theorem bindE {α β : Type} {R : Hp → List Addr → β → α → Prop} {Q : β → Hp → Prop} {Q1 : VK} {ma : EM} {k : D → RH → Res α} (E : EnvRep G H μ σ ρ) (HR : HeapRep G H μ η) (h : Fin R G W σ Q H μ ((ma ρ η).bind k))
    (hk : ∀ v H1 μ1 d η1, EnvRep G H1 μ1 σ ρ → HeapRep G H1 μ1 η1 → RepD G H1 μ1 v d → Tr H μ H1 μ1 → Fin R G W σ Q H1 μ1 (k d η1) → Q1 v H1) : tM G W ma σ H Q1 := by
  refine ⟨ρ, η, μ, E, HR, ?_⟩
  generalize ma ρ η = r at h ⊢
  cases r with
  | ok d η1 => exact fun v H1 μ1 t r hr => hk v H1 μ1 d η1 (E.mono t) hr r t (Fin.mono (show Fin R G W σ Q H μ (k d η1) from h) t)
  | ex c xs η1 => exact h
  | bad => exact h
theorem bindT {α β : Type} {R : Hp → List Addr → β → α → Prop} {Q : β → Hp → Prop} {Q1 : Bool → Hp → Prop} {ma : TM} {k : Bool → RH → Res α} (E : EnvRep G H μ σ ρ) (HR : HeapRep G H μ η) (h : Fin R G W σ Q H μ ((ma ρ η).bind k))
    (hk : ∀ b H1 μ1 η1, EnvRep G H1 μ1 σ ρ → HeapRep G H1 μ1 η1 → Tr H μ H1 μ1 → Fin R G W σ Q H1 μ1 (k b η1) → Q1 b H1) : tMT G W ma σ H Q1 := by
  refine ⟨ρ, η, μ, E, HR, ?_⟩
  generalize ma ρ η = r at h ⊢
  cases r with
  | ok d η1 =>
    intro v H1 μ1 t r hr
    cases r
    exact hk _ H1 μ1 η1 (E.mono t) hr t (Fin.mono (show Fin R G W σ Q H μ (k _ η1) from h) t)
  | ex c xs η1 => exact h
  | bad => exact h
theorem bindA {α β : Type} {R : Hp → List Addr → β → α → Prop} {Q : β → Hp → Prop} {Q1 : List V → Hp → Prop} {ma : AM} {k : List D → RH → Res α} (E : EnvRep G H μ σ ρ) (HR : HeapRep G H μ η) (h : Fin R G W σ Q H μ ((ma ρ η).bind k))
    (hk : ∀ vs H1 μ1 ds η1, EnvRep G H1 μ1 σ ρ → HeapRep G H1 μ1 η1 → RepDs G H1 μ1 vs ds → Tr H μ H1 μ1 → Fin R G W σ Q H1 μ1 (k ds η1) → Q1 vs H1) : tMA G W ma σ H Q1 := by
  refine ⟨ρ, η, μ, E, HR, ?_⟩
  generalize ma ρ η = r at h ⊢
  cases r with
  | ok d η1 => exact fun v H1 μ1 t r hr => hk v H1 μ1 d η1 (E.mono t) hr r t (Fin.mono (show Fin R G W σ Q H μ (k d η1) from h) t)
  | ex c xs η1 => exact h
  | bad => exact h
end
theorem iE {X : Cx} {e : Expr} {t t' : TE} (h : PE X e t) (i : ∀ σ H Q, t' σ H Q → t σ H Q) : PE X e t' := ⟨fun pins s σ H Q I q => h.run pins s σ H Q I (i σ H Q q)⟩
theorem iT {X : Cx} {e : Expr} {t t' : TT} (h : PT X e t) (i : ∀ σ H Q, t' σ H Q → t σ H Q) : PT X e t' := ⟨fun pins s σ H Q I q => h.run pins s σ H Q I (i σ H Q q)⟩
theorem iW {X : Cx} {e : Expr} {t t' : TT} (h : PW X e t) (i : ∀ σ H Q, t' σ H Q → t σ H Q) : PW X e t' := ⟨fun wh pins s σ H Q I q => h.run wh pins s σ H Q I (i σ H Q q)⟩
theorem iA {X : Cx} {e : List Expr} {t t' : TA} (h : PA X e t) (i : ∀ σ H Q, t' σ H Q → t σ H Q) : PA X e t' := ⟨fun pos pins s σ H Q I q => h.run pos pins s σ H Q I (i σ H Q q)⟩
theorem iS {X : Cx} {e : Stmt} {t t' : TS} (h : PS X e t) (i : ∀ D σ H, t' D σ H → t D σ H) : PS X e t' := ⟨fun pins s σ H D I q => h.run pins s σ H D I (i D σ H q)⟩
theorem iSs {X : Cx} {e : List Stmt} {t t' : TS} (h : PSs X e t) (i : ∀ D σ H, t' D σ H → t D σ H) : PSs X e t' := ⟨fun pins s σ H D I q => h.run pins s σ H D I (i D σ H q)⟩
abbrev DE (X : Cx) (G : Gd) (W : WX) (e : Expr) (m : EM) : Prop := PE X e (tM G W m)
abbrev DT (X : Cx) (G : Gd) (W : WX) (e : Expr) (m : TM) : Prop := PT X e (tMT G W m)
abbrev DW (X : Cx) (G : Gd) (W : WX) (e : Expr) (m : TM) : Prop := PW X e (tMT G W m)
abbrev DA (X : Cx) (G : Gd) (W : WX) (e : List Expr) (m : AM) : Prop := PA X e (tMA G W m)
end ML
set_option Elab.async false
set_option linter.all false
set_option maxRecDepth 100000
set_option maxHeartbeats 1000000
namespace ML
open PySem PySem.Spec PyProof.Rows L2
mutual
def toPy : P → PyData
  | .non => .none
  | .bl b => .bool b
  | .int i => .int i
  | .str s => .str s
  | .tup xs => .tuple (toPyL xs)
  | .fl xs => .list (toPyL xs)
  | .fi _ _ => .none
def toPyL : List P → List PyData
  | [] => []
  | x :: xs => toPy x :: toPyL xs
end
mutual
def noFi : P → Bool
  | .tup xs => noFiL xs
  | .fl xs => noFiL xs
  | .fi _ _ => false
  | _ => true
def noFiL : List P → Bool
  | [] => true
  | x :: xs => noFi x && noFiL xs
end
def okP (x : P) : Bool := noFi x && SeqAt.shaped (toPy x)
def eqvP (x y : P) : Bool := PyData.eqv (toPy x) (toPy y)
def RepV (G : Gd) (H : Hp) (v : V) : P → Prop
  | .fl xs => ∃ p vs, v = .ref p ∧ SqL G.K H p vs ∧ RepL G H vs xs
  | x => Rep G H v x
theorem Rep.view {G : Gd} {H : Hp} {v : V} : ∀ {x : P}, Rep G H v x → RepV G H v x
  | .fl xs, h => by
    unfold Rep at h
    obtain ⟨p, vs, e, s, r⟩ := h
    exact ⟨p, vs, e, s.sq, r⟩
  | .non, h => h
  | .bl _, h => h
  | .int _, h => h
  | .str _, h => h
  | .tup _, h => h
  | .fi _ _, h => h
def viewO : Option Ob → Option P
  | some (.ls xs) => some (.fl xs)
  | _ => none
def view (η : RH) : D → Option P
  | .p x => some x
  | .ref n => viewO η[n]?
  | .xv _ _ => none
section
variable {G : Gd} {H H' : Hp} {μ : List Addr} {η : RH}
theorem HeapRep.at (h : HeapRep G H μ η) {n : Nat} {o : Ob} (e : η[n]? = some o) : ∃ a, μ[n]? = some a ∧ RepO G H μ a o := by
  have hl : n < η.length := (List.getElem?_eq_some_iff.mp e).1
  have hm : n < μ.length := by rw [h.len]; exact hl
  exact ⟨μ[n], by simp [hm], h.ob n _ o (by simp [hm]) e⟩
theorem viewRep {v : V} {d : D} {x : P} (hr : HeapRep G H μ η) (r : RepD G H μ v d) (e : view η d = some x) : RepV G H v x := by
  cases d with
  | p y => cases e; exact Rep.view r
  | xv c xs => cases e
  | ref n =>
    obtain ⟨a, ea, rfl⟩ := r
    have e : viewO η[n]? = some x := e
    cases ho : η[n]? with
    | none => rw [ho] at e; cases e
    | some o =>
      rw [ho] at e
      cases o <;> cases e
      obtain ⟨b, eb, vs, h1, h2⟩ := hr.at ho
      rw [ea] at eb; cases eb
      exact ⟨a, vs, rfl, SqL.of h1, h2⟩
theorem RepO.same (s : Same H H') {a : Addr} : ∀ {o : Ob}, RepO G H μ a o → RepO G H' μ a o
  | .ls xs, ⟨vs, h, r⟩ => ⟨vs, s _ _ h, RepL.mono (Same.imm s) _ r⟩
  | .lr ns, ⟨as, h, r⟩ => ⟨as, s _ _ h, r⟩
  | .dc kvs, ⟨ks, h, e, r⟩ => ⟨ks, s _ _ h, e, RepL.mono (Same.imm s) _ r⟩
  | .dt kvs, ⟨ks, h, e, rk, r⟩ => ⟨ks, s _ _ h, e, RepL.mono (Same.imm s) _ rk, RepL.mono (Same.imm s) _ r⟩
  | .fz kvs, ⟨ob, ks, h, e, r⟩ => ⟨ob, ks, s _ _ h, e, RepL.mono (Same.imm s) _ r⟩
  | .fn kvs, ⟨ob, ks, h, e, rk, r⟩ => ⟨ob, ks, s _ _ h, e, RepL.mono (Same.imm s) _ rk, RepL.mono (Same.imm s) _ r⟩
  | .gone, ⟨x, h⟩ => ⟨x, s _ _ h⟩
  | .ins c fs, ⟨dx, gs, h, e, r⟩ => ⟨dx, gs, s _ _ h, e, RepDs.mono (Tr.same s) r⟩
  | .tp ds, ⟨vs, h, r⟩ => ⟨vs, s _ _ h, RepDs.mono (Tr.same s) r⟩
theorem HeapRep.same (s : Same H H') (h : HeapRep G H μ η) : HeapRep G H' μ η := ⟨h.len, h.nd, fun n a o e1 e2 => (h.ob n a o e1 e2).same s⟩
theorem Same.up {a : Addr} {o : HO} (n : H a = none) : Same H (upd H a o) := fun b u e => by rw [upd_ne (ne_of_none e n)]; exact e
end
def nameM (i : Nat) : EM := fun ρ η => match ρ[i]? with
  | some (some d) => .ok d η
  | _ => .bad
def cM (x : P) : EM := fun _ η => .ok (.p x) η
section
variable {X : Cx} {G : Gd} {W : WX}
theorem de_name (i : Nat) {x : Str} {pos : Pos} (hN : X.N[i]? = some x := by rfl) (hv : Vis X.env.scope x := by first | exact Or.inl rfl | exact Or.inr (Or.inl rfl) | exact Or.inr (Or.inr rfl)) (hd : (x == ("__debug__" : Str)) = false := by decide)
    (hcd : (x == ("__classdict__" : Str)) = false := by decide) : DE X G W (.Name x pos) (nameM i) := by
  refine iE (pe_var hN hv hd hcd) fun σ H Q h => ?_
  obtain ⟨ρ, η, μ, E, HR, h⟩ := h
  unfold nameM at h
  split at h
  · rename_i d e
    obtain ⟨v, h1, h2⟩ := E.at' i d e
    exact ⟨v, h1, h v H μ Tr.refl h2 HR⟩
  · exact h.elim
theorem de_c {e : Expr} {x : P} {v : V} (h : PE X e (tC v)) (r : ∀ H, Rep G H v x) : DE X G W e (cM x) := iE h fun σ H Q ⟨ρ, η, μ, E, HR, h⟩ => h v H μ Tr.refl (r H) HR
theorem de_int {i : Int} {j pos} : DE X G W (.Constant (.int i) j pos) (cM (.int i)) := de_c pe_int fun _ => by unfold Rep; rfl
theorem de_str {i : Str} {j pos} : DE X G W (.Constant (.str i) j pos) (cM (.str i)) := de_c pe_str fun _ => by unfold Rep; rfl
theorem de_bl {i : Bool} {j pos} : DE X G W (.Constant (.bool i) j pos) (cM (.bl i)) := de_c pe_bl fun _ => by unfold Rep; rfl
theorem de_non {j pos} : DE X G W (.Constant .none j pos) (cM .non) := de_c pe_non fun _ => by unfold Rep; rfl
end
def ofO (o : Option P) (η : RH) : Res D := match o with
  | some z => .ok (.p z) η
  | none => .bad
def op2 (g : P → P → Option P) (ma mb : EM) : EM := fun ρ η => (ma ρ η).bind fun a η => (mb ρ η).bind fun b η => ofO ((view η a).bind fun x => (view η b).bind (g x)) η
def op1 (g : P → Option P) (ma : EM) : EM := fun ρ η => (ma ρ η).bind fun a η => ofO ((view η a).bind g) η
def Op2 (G : Gd) (r : R2) (g : P → P → Option P) : Prop := ∀ x y z v u H Q, g x y = some z → RepV G H v x → RepV G H u y → (∀ w H', Same H H' → Rep G H' w z → Q w H') → r v u H Q
def Op1 (G : Gd) (r : V → Hp → VK → Prop) (g : P → Option P) : Prop := ∀ x z v H Q, g x = some z → RepV G H v x → (∀ w H', Same H H' → Rep G H' w z → Q w H') → r v H Q
section
variable {X : Cx} {G : Gd} {W : WX} {a b : Expr} {ma mb : EM} {pos : Pos}
theorem ofO_fin {σ : SV} {Q : VK} {H : Hp} {μ : List Addr} {o : Option P} {η : RH} (HR : HeapRep G H μ η) (h : FinE G W σ Q H μ (ofO o η)) : ∃ z, o = some z ∧ ∀ w H', Same H H' → Rep G H' w z → Q w H' := by
  cases o with
  | none => exact h.elim
  | some z => exact ⟨z, rfl, fun w H' s r => h w H' μ (Tr.same s) r (HR.same s)⟩
theorem op2_read {r : R2} {g : P → P → Option P} (og : Op2 G r g) {σ : SV} {H : Hp} {Q : VK} (h : tM G W (op2 g ma mb) σ H Q) : tM G W ma σ H fun x H1 => tM G W mb σ H1 fun y H2 => r x y H2 Q := by
  obtain ⟨ρ, η, μ, E, HR, h⟩ := h
  refine bindE E HR h fun v H1 μ1 d η1 E1 HR1 r1 t1 h1 => ?_
  refine bindE E1 HR1 h1 fun u H2 μ2 d2 η2 E2 HR2 r2 t2 h2 => ?_
  obtain ⟨z, e, q⟩ := ofO_fin HR2 h2
  cases ex : view η2 d with
  | none => rw [ex] at e; cases e
  | some x =>
    cases ey : view η2 d2 with
    | none => rw [ex, ey] at e; cases e
    | some y =>
      rw [ex, ey] at e
      exact og x y z v u H2 Q e (viewRep HR2 (r1.mono t2) ex) (viewRep HR2 r2 ey) q
theorem op1_read {r : V → Hp → VK → Prop} {g : P → Option P} (og : Op1 G r g) {σ : SV} {H : Hp} {Q : VK} (h : tM G W (op1 g ma) σ H Q) : tM G W ma σ H fun x H1 => r x H1 Q := by
  obtain ⟨ρ, η, μ, E, HR, h⟩ := h
  refine bindE E HR h fun v H1 μ1 d η1 E1 HR1 r1 t1 h1 => ?_
  obtain ⟨z, e, q⟩ := ofO_fin HR1 h1
  cases ex : view η1 d with
  | none => rw [ex] at e; cases e
  | some x =>
    rw [ex] at e
    exact og x z v H1 Q e (viewRep HR1 r1 ex) q
theorem de_op {op : Operator} {r : R2} {g : P → P → Option P} (ho : OpR X (binaryOp op) r) (og : Op2 G r g) (ha : DE X G W a ma) (hb : DE X G W b mb) : DE X G W (.BinOp a op b pos) (op2 g ma mb) :=
  iE (pe_op ho ha hb) fun σ H Q h => op2_read og h
theorem de_cmp {op : CmpOp} {r : R2} {g : P → P → Option P} (ho : OpR X (compareOp op) r) (og : Op2 G r g) (hm : behindInMarks op b = false) (ha : DE X G W a ma) (hb : DE X G W b mb) : DE X G W (.Compare a [op] [b] pos) (op2 g ma mb) :=
  iE (pe_cmpR ho ha hb hm) fun σ H Q h => op2_read og h
theorem de_un {op : UnaryOp} {r : V → Hp → VK → Prop} {g : P → Option P} (ho : UnR X (unaryOp op) r) (og : Op1 G r g) (ha : DE X G W a ma) : DE X G W (.UnaryOp op a pos) (op1 g ma) :=
  iE (pe_un ho ha) fun σ H Q h => op1_read og h
theorem Op2.or1 {r r' : R2} {g g' : P → P → Option P} (h : Op2 G r g) (h' : Op2 G r' g') : Op2 G (fun x y H Q => r x y H Q ∨ r' x y H Q) (fun x y => (g x y).or (g' x y)) := fun x y z v u H Q e rx ry q => by
  cases eg : g x y with
  | some w =>
    simp only [eg, Option.or] at e
    exact .inl (h x y z v u H Q (eg.trans e) rx ry q)
  | none =>
    simp only [eg, Option.or] at e
    exact .inr (h' x y z v u H Q e rx ry q)
end
def addI : P → P → Option P
  | .int i, .int j => some (.int (i + j))
  | _, _ => none
def addS : P → P → Option P
  | .str i, .str j => if i.length + j.length ≤ sizeLine then some (.str (i ++ j)) else none
  | _, _ => none
def subI : P → P → Option P
  | .int i, .int j => some (.int (i - j))
  | _, _ => none
def mulI : P → P → Option P
  | .int i, .int j => if (-(2 ^ 64) < i ∧ i < 2 ^ 64) ∨ (-(2 ^ 64) < j ∧ j < 2 ^ 64) then some (.int (i * j)) else none
  | _, _ => none
def fdivI : P → P → Option P
  | .int i, .int j => if 0 < j ∧ j < 1073741824 then some (.int (i / j)) else none
  | _, _ => none
def modI : P → P → Option P
  | .int i, .int j => if 0 < j then some (.int (i % j)) else none
  | _, _ => none
def powI : P → P → Option P
  | .int i, .int j => if 0 ≤ j ∧ j ≤ 1000000 ∧ i.natAbs < 2 ^ 64 then some (.int (i ^ j.toNat)) else none
  | _, _ => none
def negI : P → Option P
  | .int i => some (.int (-i))
  | _ => none
theorem repInt {G : Gd} {H : Hp} {v : V} {i : Int} (h : RepV G H v (.int i)) : v = .int i := by
  have h : Rep G H v (.int i) := h
  unfold Rep at h; exact h
theorem repStr {G : Gd} {H : Hp} {v : V} {i : Str} (h : RepV G H v (.str i)) : v = .str i := by
  have h : Rep G H v (.str i) := h
  unfold Rep at h; exact h
theorem repBl {G : Gd} {H : Hp} {v : V} {i : Bool} (h : RepV G H v (.bl i)) : v = .bl i := by
  have h : Rep G H v (.bl i) := h
  unfold Rep at h; exact h
theorem repNon {G : Gd} {H : Hp} {v : V} (h : RepV G H v .non) : v = .non := by
  have h : Rep G H v .non := h
  unfold Rep at h; exact h
theorem repTup {G : Gd} {H : Hp} {v : V} {xs : List P} (h : RepV G H v (.tup xs)) : ∃ p vs, v = .ref p ∧ SqT G.K H p vs ∧ RepL G H vs xs := by
  have h : Rep G H v (.tup xs) := h
  unfold Rep at h; exact h
theorem Rep.int {G : Gd} {H : Hp} (i : Int) : Rep G H (.int i) (.int i) := by unfold Rep; rfl
theorem Rep.str {G : Gd} {H : Hp} (i : Str) : Rep G H (.str i) (.str i) := by unfold Rep; rfl
theorem Rep.bl {G : Gd} {H : Hp} (i : Bool) : Rep G H (.bl i) (.bl i) := by unfold Rep; rfl
theorem Rep.non {G : Gd} {H : Hp} : Rep G H .non .non := by unfold Rep; rfl
theorem repDbl {G : Gd} {H : Hp} {μ : List Addr} {v : V} {b : Bool} (h : RepD G H μ v (.p (.bl b))) : v = .bl b := by
  have h : Rep G H v (.bl b) := h
  unfold Rep at h; exact h
theorem finBl {G : Gd} {W : WX} {σ : SV} {Q : VK} {H : Hp} {μ : List Addr} {b : Bool} {η : RH} (h : FinE G W σ Q H μ (.ok (.p (.bl b)) η)) (HR : HeapRep G H μ η) : Q (.bl b) H := h _ H μ Tr.refl (show Rep G H (.bl b) (.bl b) from Rep.bl b) HR
section
variable {G : Gd}
theorem op2I0 {f : Int → Int → Int} {g : P → P → Option P} (hg : ∀ x y z, g x y = some z → ∃ i j, x = .int i ∧ y = .int j ∧ z = .int (f i j)) : Op2 G (rI0 fun i j => .int (f i j)) g := fun x y z v u H Q e rx ry q => by
  obtain ⟨i, j, rfl, rfl, rfl⟩ := hg x y z e
  exact ⟨i, j, repInt rx, repInt ry, q _ H (Same.refl H) (Rep.int _)⟩
theorem op2I {C : Int → Int → Prop} {f : Int → Int → Int} {g : P → P → Option P} (hg : ∀ x y z, g x y = some z → ∃ i j, x = .int i ∧ y = .int j ∧ C i j ∧ z = .int (f i j)) : Op2 G (rI C fun i j => .int (f i j)) g := fun x y z v u H Q e rx ry q => by
  obtain ⟨i, j, rfl, rfl, c, rfl⟩ := hg x y z e
  exact ⟨i, j, repInt rx, repInt ry, c, q _ H (Same.refl H) (Rep.int _)⟩
theorem o_addI : Op2 G (rI0 fun i j => .int (i + j)) addI := op2I0 fun x y z e => by
  cases x <;> cases y <;> simp [addI] at e
  subst e; exact ⟨_, _, rfl, rfl, rfl⟩
theorem o_subI : Op2 G (rI0 fun i j => .int (i - j)) subI := op2I0 fun x y z e => by
  cases x <;> cases y <;> simp [subI] at e
  subst e; exact ⟨_, _, rfl, rfl, rfl⟩
theorem o_mulI : Op2 G (rI CMul fun i j => .int (i * j)) mulI := op2I fun x y z e => by
  cases x <;> cases y <;> simp only [mulI, reduceCtorEq, Option.ite_none_right_eq_some, Option.some.injEq] at e
  obtain ⟨h, rfl⟩ := e; exact ⟨_, _, rfl, rfl, h, rfl⟩
theorem o_fdivI : Op2 G (rI CDiv fun i j => .int (i / j)) fdivI := op2I fun x y z e => by
  cases x <;> cases y <;> simp only [fdivI, reduceCtorEq, Option.ite_none_right_eq_some, Option.some.injEq] at e
  obtain ⟨h, rfl⟩ := e; exact ⟨_, _, rfl, rfl, h, rfl⟩
theorem o_modI : Op2 G (rI (fun _ j => 0 < j) fun i j => .int (i % j)) modI := op2I fun x y z e => by
  cases x <;> cases y <;> simp only [modI, reduceCtorEq, Option.ite_none_right_eq_some, Option.some.injEq] at e
  obtain ⟨h, rfl⟩ := e; exact ⟨_, _, rfl, rfl, h, rfl⟩
theorem o_powI : Op2 G (rI CPow fun i j => .int (i ^ j.toNat)) powI := op2I fun x y z e => by
  cases x <;> cases y <;> simp only [powI, reduceCtorEq, Option.ite_none_right_eq_some, Option.some.injEq] at e
  obtain ⟨h, rfl⟩ := e; exact ⟨_, _, rfl, rfl, h, rfl⟩
theorem o_negI : Op1 G (rU fun i => .int (-i)) negI := fun x z v H Q e rx q => by
  cases x <;> simp [negI] at e
  subst e
  exact ⟨_, repInt rx, q _ H (Same.refl H) (Rep.int _)⟩
theorem o_addS : Op2 G (fun x y H Q => ∃ i j, x = .str i ∧ y = .str j ∧ i.length + j.length ≤ sizeLine ∧ Q (.str (i ++ j)) H) addS := fun x y z v u H Q e rx ry q => by
  cases x <;> cases y <;> simp only [addS, reduceCtorEq, Option.ite_none_right_eq_some, Option.some.injEq] at e
  obtain ⟨h, rfl⟩ := e
  exact ⟨_, _, repStr rx, repStr ry, h, q _ H (Same.refl H) (Rep.str _)⟩
def cmpI (f : Int → Int → Bool) : P → P → Option P
  | .int i, .int j => some (.bl (f i j))
  | _, _ => none
theorem o_cmpI {f : Int → Int → Bool} : Op2 G (rI0 fun i j => .bl (f i j)) (cmpI f) := fun x y z v u H Q e rx ry q => by
  cases x <;> cases y <;> simp only [cmpI, reduceCtorEq, Option.some.injEq] at e
  subst e
  exact ⟨_, _, repInt rx, repInt ry, q _ H (Same.refl H) (Rep.bl _)⟩
def isNon : P → Bool
  | .non => true
  | _ => false
def isN : P → P → Option P
  | x, .non => some (.bl (isNon x))
  | _, _ => none
theorem repNon_iff {H : Hp} {v : V} {x : P} (r : RepV G H v x) : decide (v = .non) = isNon x := by
  cases x with
  | non => rw [repNon r]; rfl
  | bl b => rw [repBl r]; rfl
  | int b => rw [repInt r]; rfl
  | str b => rw [repStr r]; rfl
  | tup b => obtain ⟨p, _, rfl, _⟩ := repTup r; rfl
  | fl b => obtain ⟨p, _, rfl, _⟩ := r; rfl
  | fi c b =>
    have r : Rep G H v (.fi c b) := r
    unfold Rep at r
    obtain ⟨p, _, _, _, rfl, _⟩ := r; rfl
theorem o_isN : Op2 G (fun x y H Q => y = .non ∧ Q (.bl (decide (x = .non))) H) isN := fun x y z v u H Q e rx ry q => by
  cases y <;> simp only [isN, reduceCtorEq, Option.some.injEq] at e
  subst e
  exact ⟨repNon ry, by rw [repNon_iff rx]; exact q _ H (Same.refl H) (Rep.bl _)⟩
mutual
theorem Rep.dp {H : Hp} : ∀ {v : V} (x : P), noFi x = true → Rep G H v x → Dp G.K H v (toPy x)
  | _, .non, _, h => by unfold Rep at h; subst h; unfold toPy; exact .non
  | _, .bl b, _, h => by unfold Rep at h; subst h; unfold toPy; exact .bl b
  | _, .int b, _, h => by unfold Rep at h; subst h; unfold toPy; exact .int b
  | _, .str b, _, h => by unfold Rep at h; subst h; unfold toPy; exact .str b
  | _, .tup xs, n, h => by
    unfold Rep at h; unfold noFi at n; unfold toPy
    obtain ⟨p, vs, rfl, s, r⟩ := h
    exact .tup s (RepL.dp xs n r)
  | _, .fl xs, n, h => by
    unfold Rep at h; unfold noFi at n; unfold toPy
    obtain ⟨p, vs, rfl, s, r⟩ := h
    exact .lst s.sq (RepL.dp xs n r)
  | _, .fi c xs, n, h => by unfold noFi at n; cases n
theorem RepL.dp {H : Hp} : ∀ {vs : List V} (xs : List P), noFiL xs = true → RepL G H vs xs → DpAll G.K H vs (toPyL xs)
  | vs, [], _, h => by rw [h.nil_inv]; unfold toPyL; exact .nil
  | vs, x :: xs, n, h => by
    obtain ⟨v, ws, rfl, r, t⟩ := h.cons_inv
    unfold noFiL at n
    rw [Bool.and_eq_true] at n
    unfold toPyL
    exact .cons (Rep.dp x n.1 r) (RepL.dp xs n.2 t)
end
theorem RepV.dp {H : Hp} {v : V} : ∀ {x : P}, noFi x = true → RepV G H v x → Dp G.K H v (toPy x)
  | .fl xs, n, h => by
    unfold noFi at n; unfold toPy
    obtain ⟨p, vs, rfl, s, r⟩ := h
    exact .lst s (RepL.dp xs n r)
  | .non, n, h => Rep.dp _ n h
  | .bl _, n, h => Rep.dp _ n h
  | .int _, n, h => Rep.dp _ n h
  | .str _, n, h => Rep.dp _ n h
  | .tup _, n, h => Rep.dp _ n h
  | .fi _ _, n, h => Rep.dp _ n h
def eqG (neg : Bool) : P → P → Option P := fun x y => if okP x = true ∧ okP y = true then some (.bl (if neg then !eqvP x y else eqvP x y)) else none
theorem o_eq : Op2 G (rEqD G.K) (eqG false) := fun x y z v u H Q e rx ry q => by
  unfold eqG at e
  split at e
  · rename_i h
    cases e
    obtain ⟨h1, h2⟩ := h
    unfold okP at h1 h2
    rw [Bool.and_eq_true] at h1 h2
    exact ⟨toPy x, toPy y, RepV.dp h1.1 rx, RepV.dp h2.1 ry, h1.2, h2.2, q _ H (Same.refl H) (Rep.bl _)⟩
  · cases e
theorem o_ne : Op2 G (rNeD G.K) (eqG true) := fun x y z v u H Q e rx ry q => by
  unfold eqG at e
  split at e
  · rename_i h
    cases e
    obtain ⟨h1, h2⟩ := h
    unfold okP at h1 h2
    rw [Bool.and_eq_true] at h1 h2
    exact ⟨toPy x, toPy y, RepV.dp h1.1 rx, RepV.dp h2.1 ry, h1.2, h2.2, q _ H (Same.refl H) (Rep.bl _)⟩
  · cases e
end
end ML
set_option Elab.async false
set_option linter.all false
set_option maxRecDepth 100000
set_option maxHeartbeats 1000000
namespace ML
open PySem PySem.Spec PyProof.Rows L2
structure Ctx (X : Cx) (G : Gd) (W : WX) (k : Nat) : Prop where
  hK : X.K = G.K
  hc : X.calm = true
  hN : X.N.Nodup
  tk : Takes X W
  hp : PassesOwn (model X.prog X.w) X.A X.env X.xe
  hr : Room k X.A
abbrev W0 : WX := fun _ _ _ _ => False
theorem Ctx.blk {X : Cx} {G : Gd} {W : WX} {k : Nat} (c : Ctx X G W k) {s : Shared} {H : Hp} {scope : Scope} {cenv : Env} {fp : List Addr} : Ctx (X.blk s H scope cenv fp) G W0 k :=
  ⟨c.hK, c.hc, c.hN, takes0, PassesOwn.never, c.hr⟩
section
variable {X : Cx} {G : Gd} {W : WX} {k : Nat} {a b e : Expr} {ma mb mc : EM} {pos : Pos}
def addT : P → P → Option P
  | .tup xs, .tup ys => if xs.length + ys.length ≤ sizeLine then some (.tup (xs ++ ys)) else none
  | _, _ => none
theorem Rep.tup {G : Gd} {H : Hp} {p : Addr} {vs : List V} {xs : List P} (h : SqT G.K H p vs) (r : RepL G H vs xs) : Rep G H (.ref p) (.tup xs) := by unfold Rep; exact ⟨p, vs, rfl, h, r⟩
theorem Rep.fl {G : Gd} {H : Hp} {p : Addr} {vs : List V} {xs : List P} (h : SqF G.K H p vs) (r : RepL G H vs xs) : Rep G H (.ref p) (.fl xs) := by unfold Rep; exact ⟨p, vs, rfl, h, r⟩
theorem newTup {G : Gd} {H : Hp} {p : Addr} {vs : List V} {xs : List P} (n : H p = none) (r : RepL G H vs xs) : Rep G (upd H p (.tup vs)) (.ref p) (.tup xs) :=
  Rep.tup (SqT.of upd_same) (RepL.mono (Same.imm (Same.up n)) _ r)
theorem RepL.nilV {G : Gd} {H : Hp} : ∀ {xs : List P}, RepL G H [] xs → xs = []
  | [], _ => rfl
  | _ :: _, h => by unfold RepL at h; exact h.elim
theorem o_addT : Op2 G (rCatA G.K) addT := fun x y z v u H Q e rx ry q => by
  cases x <;> cases y <;> simp only [addT, reduceCtorEq, Option.ite_none_right_eq_some, Option.some.injEq] at e
  obtain ⟨h, rfl⟩ := e
  obtain ⟨p, vs, rfl, s, r⟩ := repTup rx
  obtain ⟨p', ws, rfl, s', r'⟩ := repTup ry
  refine ⟨p, p', vs, ws, rfl, rfl, s, s', by rw [r.length, r'.length]; exact h, fun e => ?_, fun _ e => ?_, fun _ _ n hn => ?_⟩
  · subst e
    cases r.nilV
    exact q _ H (Same.refl H) (Rep.tup s' r')
  · subst e
    cases r'.nilV
    exact q _ H (Same.refl H) (by rw [List.append_nil]; exact Rep.tup s r)
  · exact q _ _ (Same.up hn) (newTup hn (r.append r'))
def addG : P → P → Option P := fun x y => (addI x y).or ((addS x y).or (addT x y))
theorem op_addG (c : Ctx X G W k) : OpR X (binaryOp .Add) (fun x y H Q => rI0 (fun i j => .int (i + j)) x y H Q ∨ ((∃ i j, x = .str i ∧ y = .str j ∧ i.length + j.length ≤ sizeLine ∧ Q (.str (i ++ j)) H) ∨ rCatA G.K x y H Q)) := by
  rw [← c.hK]
  exact op_add.or (op_add_str.or op_catA)
theorem de_add (c : Ctx X G W k) (ha : DE X G W a ma) (hb : DE X G W b mb) : DE X G W (.BinOp a .Add b pos) (op2 addG ma mb) :=
  de_op (op_addG c) (o_addI.or1 (o_addS.or1 o_addT)) ha hb
theorem de_sub (ha : DE X G W a ma) (hb : DE X G W b mb) : DE X G W (.BinOp a .Sub b pos) (op2 subI ma mb) := de_op op_sub o_subI ha hb
theorem de_mul (ha : DE X G W a ma) (hb : DE X G W b mb) : DE X G W (.BinOp a .Mult b pos) (op2 mulI ma mb) := de_op op_mul o_mulI ha hb
theorem de_fdiv (ha : DE X G W a ma) (hb : DE X G W b mb) : DE X G W (.BinOp a .FloorDiv b pos) (op2 fdivI ma mb) := de_op op_fdiv o_fdivI ha hb
theorem de_mod (ha : DE X G W a ma) (hb : DE X G W b mb) : DE X G W (.BinOp a .Mod b pos) (op2 modI ma mb) := de_op op_mod o_modI ha hb
theorem de_pow (ha : DE X G W a ma) (hb : DE X G W b mb) : DE X G W (.BinOp a .Pow b pos) (op2 powI ma mb) := de_op op_pow o_powI ha hb
theorem de_neg (ha : DE X G W a ma) : DE X G W (.UnaryOp .USub a pos) (op1 negI ma) := de_un un_neg o_negI ha
def ltI := cmpI fun i j => decide (i < j)
def leI := cmpI fun i j => decide (i ≤ j)
def gtI := cmpI fun i j => decide (j < i)
def geI := cmpI fun i j => decide (j ≤ i)
structure CmpD (X : Cx) (G : Gd) (op : CmpOp) (g : P → P → Option P) : Prop where
  ex : ∃ r, OpR X (compareOp op) r ∧ Op2 G r g
theorem cd_lt : CmpD X G .Lt ltI := ⟨_, op_lt, o_cmpI⟩
theorem cd_le : CmpD X G .LtE leI := ⟨_, op_le, o_cmpI⟩
theorem cd_gt : CmpD X G .Gt gtI := ⟨_, op_gt, o_cmpI⟩
theorem cd_ge : CmpD X G .GtE geI := ⟨_, op_ge, o_cmpI⟩
theorem cd_eq (c : Ctx X G W k) : CmpD X G .Eq (eqG false) := ⟨rEqD X.K, op_eqD c.hr.units, by rw [c.hK]; exact o_eq⟩
theorem cd_ne (c : Ctx X G W k) : CmpD X G .NotEq (eqG true) := ⟨rNeD X.K, op_neD c.hr.units, by rw [c.hK]; exact o_ne⟩
theorem cd_is : CmpD X G .Is isN := ⟨_, op_isN, o_isN⟩
theorem de_cmpD {op : CmpOp} {g : P → P → Option P} (h : CmpD X G op g) (ha : DE X G W a ma) (hb : DE X G W b mb) (hm : behindInMarks op b = false := by first | exact nomark _ | rfl) : DE X G W (.Compare a [op] [b] pos) (op2 g ma mb) := by
  obtain ⟨r, ho, og⟩ := h.ex
  exact de_cmp ho og hm ha hb
def asB : D → Option Bool
  | .p (.bl b) => some b
  | _ => none
def ofB (o : Option Bool) (η : RH) : Res Bool := match o with
  | some b => .ok b η
  | none => .bad
def tstM (m : EM) : TM := fun ρ η => (m ρ η).bind fun d η => ofB (asB d) η
theorem tst_read {σ : SV} {H : Hp} {Q : Bool → Hp → Prop} (h : tMT G W (tstM ma) σ H Q) : tM G W ma σ H fun x H1 => ∃ c, x = .bl c ∧ Q c H1 := by
  obtain ⟨ρ, η, μ, E, HR, h⟩ := h
  refine bindE E HR h fun v H1 μ1 d η1 E1 HR1 r1 t1 h1 => ?_
  cases d with
  | p x =>
    cases x <;> first | exact h1.elim | skip
    have e : v = .bl _ := repDbl r1
    exact ⟨_, e, h1 _ H1 μ1 Tr.refl rfl HR1⟩
  | ref n => exact h1.elim
  | xv c xs => exact h1.elim
theorem dt_val (h : DE X G W e ma) (he : ∀ whole, isTrue e X.env whole = (do let v ← whole; standAt e.pos; holding [v] (truthy v)) := by intro _; rfl) : DT X G W e (tstM ma) :=
  iT (pt_val h he) fun σ H Q h => tst_read h
theorem dt_cmp {op : CmpOp} {g : P → P → Option P} (h : CmpD X G op g) (ha : DE X G W a ma) (hb : DE X G W b mb) (hm : behindInMarks op b = false := by first | exact nomark _ | rfl) : DT X G W (.Compare a [op] [b] pos) (tstM (op2 g ma mb)) := by
  obtain ⟨r, ho, og⟩ := h.ex
  refine iT (pt_cmpR ho ha hb hm) fun σ H Q h => ?_
  have h2 := tst_read h
  exact op2_read og h2
def chainM (g g' : P → P → Option P) (ma mb mc : EM) : EM := fun ρ η => (ma ρ η).bind fun a η => (mb ρ η).bind fun b η => (ofB (((view η a).bind fun x => (view η b).bind (g x)).bind fun z => asB (.p z)) η).bind fun t η =>
  if t = true then (mc ρ η).bind fun c η => ofO ((view η b).bind fun y => (view η c).bind (g' y)) η else .ok (.p (.bl false)) η
theorem chain_read {r r' : R2} {g g' : P → P → Option P} (og : Op2 G r g) (og' : Op2 G r' g') {σ : SV} {H : Hp} {Q : VK} (h : tM G W (chainM g g' ma mb mc) σ H Q) :
    tM G W ma σ H fun x H1 => tM G W mb σ H1 fun y H2 => r x y H2 fun z H3 => ∃ t, z = .bl t ∧ if t = true then tM G W mc σ H3 fun u H4 => r' y u H4 Q else Q (.bl false) H3 := by
  obtain ⟨ρ, η, μ, E, HR, h⟩ := h
  refine bindE E HR h fun v H1 μ1 d η1 E1 HR1 r1 t1 h1 => ?_
  refine bindE E1 HR1 h1 fun u H2 μ2 d2 η2 E2 HR2 r2 t2 h2 => ?_
  cases ex : view η2 d with
  | none => rw [ex] at h2; exact h2.elim
  | some x =>
    cases ey : view η2 d2 with
    | none => rw [ex, ey] at h2; exact h2.elim
    | some y =>
      cases eg : g x y with
      | none => simp only [ex, ey, Option.bind_some, eg, Option.bind_none] at h2; exact h2.elim
      | some z =>
        refine og x y z v u H2 _ eg (viewRep HR2 (r1.mono t2) ex) (viewRep HR2 r2 ey) fun w H3 s3 rw3 => ?_
        simp only [ex, ey, Option.bind_some, eg] at h2
        have T3 : Tr H2 μ2 H3 μ2 := Tr.same s3
        cases z with
        | bl t =>
          refine ⟨t, repBl (Rep.view rw3), ?_⟩
          cases t with
          | false => exact (if_neg Bool.false_ne_true).mpr (finBl (Fin.mono h2 T3) (HR2.same s3))
          | true =>
            refine (if_pos rfl).mpr ?_
            have h3 : FinE G W σ Q H2 μ2 ((mc ρ η2).bind fun c η => ofO ((view η d2).bind fun y => (view η c).bind (g' y)) η) := h2
            refine bindE (E2.mono T3) (HR2.same s3) (Fin.mono h3 T3) fun u4 H4 μ4 d4 η4 E4 HR4 r4 t4 h4 => ?_
            obtain ⟨z4, e4, q4⟩ := ofO_fin HR4 h4
            cases ey4 : view η4 d2 with
            | none => rw [ey4] at e4; cases e4
            | some y4 =>
              cases eu4 : view η4 d4 with
              | none => rw [ey4, eu4] at e4; cases e4
              | some c4 =>
                rw [ey4, eu4] at e4
                exact og' y4 c4 z4 u u4 H4 Q e4 (viewRep HR4 ((r2.mono T3).mono t4) ey4) (viewRep HR4 r4 eu4) q4
        | _ => exact h2.elim
theorem de_chain {op op' : CmpOp} {e3 : Expr} {g g' : P → P → Option P} (h : CmpD X G op g) (h' : CmpD X G op' g') (ha : DE X G W a ma) (hb : DE X G W b mb) (hc : DE X G W e3 mc)
    (hm : lastMarks [op, op'] [b, e3] = false := by with_unfolding_all rfl) : DE X G W (.Compare a [op, op'] [b, e3] pos) (chainM g g' ma mb mc) := by
  obtain ⟨r, ho, og⟩ := h.ex
  obtain ⟨r', ho', og'⟩ := h'.ex
  exact iE (pe_chain ho ho' ha hb hc hm) fun σ H Q q => chain_read og og' q
theorem dt_chain {op op' : CmpOp} {e3 : Expr} {g g' : P → P → Option P} (h : CmpD X G op g) (h' : CmpD X G op' g') (ha : DE X G W a ma) (hb : DE X G W b mb) (hc : DE X G W e3 mc)
    (hm : lastMarks [op, op'] [b, e3] = false := by with_unfolding_all rfl) : DT X G W (.Compare a [op, op'] [b, e3] pos) (tstM (chainM g g' ma mb mc)) := by
  obtain ⟨r, ho, og⟩ := h.ex
  obtain ⟨r', ho', og'⟩ := h'.ex
  exact iT (pt_chain ho ho' ha hb hc hm) fun σ H Q q => chain_read og og' (tst_read q)
variable {ta tb : TM} {rest : List Expr}
def andT (ta tb : TM) : TM := fun ρ η => (ta ρ η).bind fun b η => if b = true then tb ρ η else .ok false η
def orT (ta tb : TM) : TM := fun ρ η => (ta ρ η).bind fun b η => if b = true then .ok true η else tb ρ η
def notT (ta : TM) : TM := fun ρ η => (ta ρ η).bind fun b η => .ok (!b) η
theorem and_read {σ : SV} {H : Hp} {Q : Bool → Hp → Prop} (h : tMT G W (andT ta tb) σ H Q) : tAnd (tMT G W ta) (tMT G W tb) σ H Q := by
  obtain ⟨ρ, η, μ, E, HR, h⟩ := h
  refine bindT E HR h fun b H1 μ1 η1 E1 HR1 t1 h1 => ?_
  cases b with
  | true => exact (if_pos rfl).mpr ⟨ρ, η1, μ1, E1, HR1, h1⟩
  | false => exact (if_neg Bool.false_ne_true).mpr ((show FinT G W σ Q H1 μ1 (.ok false η1) from h1) _ H1 μ1 Tr.refl rfl HR1)
theorem or_read {σ : SV} {H : Hp} {Q : Bool → Hp → Prop} (h : tMT G W (orT ta tb) σ H Q) : tOr (tMT G W ta) (tMT G W tb) σ H Q := by
  obtain ⟨ρ, η, μ, E, HR, h⟩ := h
  refine bindT E HR h fun b H1 μ1 η1 E1 HR1 t1 h1 => ?_
  cases b with
  | false => exact (if_neg Bool.false_ne_true).mpr ⟨ρ, η1, μ1, E1, HR1, h1⟩
  | true => exact (if_pos rfl).mpr ((show FinT G W σ Q H1 μ1 (.ok true η1) from h1) _ H1 μ1 Tr.refl rfl HR1)
theorem not_read {σ : SV} {H : Hp} {Q : Bool → Hp → Prop} (h : tMT G W (notT ta) σ H Q) : tNot (tMT G W ta) σ H Q := by
  obtain ⟨ρ, η, μ, E, HR, h⟩ := h
  refine bindT E HR h fun b H1 μ1 η1 E1 HR1 t1 h1 => ?_
  exact (show FinT G W σ Q H1 μ1 (.ok (!b) η1) from h1) _ H1 μ1 Tr.refl rfl HR1
theorem dw_and (ha : DT X G W a ta) (hb : DW X G W (.BoolOp .And (b :: rest) pos) tb) : DW X G W (.BoolOp .And (a :: b :: rest) pos) (andT ta tb) := iW (pw_and ha hb) fun _ _ _ h => and_read h
theorem dw_and1 (ha : DT X G W a ta) : DW X G W (.BoolOp .And [a] pos) ta := pw_and1 ha
theorem dw_or (ha : DT X G W a ta) (hb : DW X G W (.BoolOp .Or (b :: rest) pos) tb) : DW X G W (.BoolOp .Or (a :: b :: rest) pos) (orT ta tb) := iW (pw_or ha hb) fun _ _ _ h => or_read h
theorem dw_or1 (ha : DT X G W a ta) : DW X G W (.BoolOp .Or [a] pos) ta := pw_or1 ha
theorem dt_w (h : DW X G W e ta) : DT X G W e ta := h.pt
theorem dt_not (ha : DT X G W a ta) : DT X G W (.UnaryOp .Not a pos) (notT ta) := iT (pt_not ha) fun _ _ _ h => not_read h
def andV (ma mb : EM) : EM := fun ρ η => (ma ρ η).bind fun d η => (ofB (asB d) η).bind fun b η => if b = true then mb ρ η else .ok (.p (.bl false)) η
def notV (ma : EM) : EM := fun ρ η => (ma ρ η).bind fun d η => (ofB (asB d) η).bind fun b η => .ok (.p (.bl (!b))) η
theorem asB_some {d : D} {b : Bool} (h : asB d = some b) : d = .p (.bl b) := by
  cases d with
  | p x => cases x <;> first | (cases h; done) | (cases h; rfl)
  | ref n => cases h
  | xv c xs => cases h
theorem andV_read {σ : SV} {H : Hp} {Q : VK} (h : tM G W (andV ma mb) σ H Q) : tAndV (tM G W ma) (tM G W mb) σ H Q := by
  obtain ⟨ρ, η, μ, E, HR, h⟩ := h
  refine bindE E HR h fun v H1 μ1 d η1 E1 HR1 r1 t1 h1 => ?_
  cases eb : asB d with
  | none => rw [eb] at h1; exact h1.elim
  | some b =>
    rw [eb] at h1
    cases asB_some eb
    refine ⟨b, repDbl r1, ?_⟩
    cases b with
    | true => exact (if_pos rfl).mpr ⟨ρ, η1, μ1, E1, HR1, h1⟩
    | false => exact (if_neg Bool.false_ne_true).mpr (finBl h1 HR1)
theorem notV_read {σ : SV} {H : Hp} {Q : VK} (h : tM G W (notV ma) σ H Q) : tNotV (tM G W ma) σ H Q := by
  obtain ⟨ρ, η, μ, E, HR, h⟩ := h
  refine bindE E HR h fun v H1 μ1 d η1 E1 HR1 r1 t1 h1 => ?_
  cases eb : asB d with
  | none => rw [eb] at h1; exact h1.elim
  | some b =>
    rw [eb] at h1
    cases asB_some eb
    exact ⟨b, repDbl r1, finBl h1 HR1⟩
theorem de_and (ha : DE X G W a ma) (hb : DE X G W (.BoolOp .And (b :: rest) pos) mb) : DE X G W (.BoolOp .And (a :: b :: rest) pos) (andV ma mb) := iE (pe_and ha hb) fun _ _ _ h => andV_read h
theorem de_not (ha : DE X G W a ma) : DE X G W (.UnaryOp .Not a pos) (notV ma) := iE (pe_not ha) fun _ _ _ h => notV_read h
theorem de_b1 {op} (ha : DE X G W a ma) : DE X G W (.BoolOp op [a] pos) ma := pe_one ha
variable {es : List Expr} {m : EM} {am : AM}
def nilA : AM := fun _ η => .ok [] η
def consA (m : EM) (am : AM) : AM := fun ρ η => (m ρ η).bind fun d η => (am ρ η).bind fun ds η => .ok (d :: ds) η
theorem da_nil : DA X G W [] nilA := iA pa_nil fun σ H Q h => by
  obtain ⟨ρ, η, μ, E, HR, h⟩ := h
  exact h [] H μ Tr.refl trivial HR
theorem da_cons (h : DE X G W e m) (t : DA X G W es am) (hs : starEach (e :: es) X.env = (false, eval e X.env) :: starEach es X.env := by rfl) : DA X G W (e :: es) (consA m am) := iA (pa_cons h t hs) fun σ H Q h => by
  obtain ⟨ρ, η, μ, E, HR, h⟩ := h
  refine bindE E HR h fun v H1 μ1 d η1 E1 HR1 r1 t1 h1 => ?_
  refine bindA E1 HR1 h1 fun vs H2 μ2 ds η2 E2 HR2 r2 t2 h2 => ?_
  exact (show FinA G W σ Q H2 μ2 (.ok (d :: ds) η2) from h2) _ H2 μ2 Tr.refl ⟨r1.mono t2, r2⟩ HR2
def asP : D → Option P
  | .p x => some x
  | .ref _ => none
  | .xv _ _ => none
def asPs : List D → Option (List P)
  | [] => some []
  | .p x :: ds => (asPs ds).map (x :: ·)
  | .ref _ :: _ => none
  | .xv _ _ :: _ => none
theorem asPs_rep {H : Hp} {μ : List Addr} : ∀ {ds : List D} {vs : List V} {xs : List P}, asPs ds = some xs → RepDs G H μ vs ds → RepL G H vs xs
  | [], [], xs, h, _ => by cases h; exact RepL.nil
  | .p x :: ds, v :: vs, xs, h, r => by
    cases e : asPs ds with
    | none => simp only [asPs, e, Option.map_none, reduceCtorEq] at h
    | some ys =>
      simp only [asPs, e, Option.map_some, Option.some.injEq] at h
      subst h
      exact RepL.cons r.1 (asPs_rep e r.2)
  | .ref _ :: _, _ :: _, _, h, _ => by cases h
  | .xv _ _ :: _, _ :: _, _, h, _ => by cases h
  | [], _ :: _, _, _, r => r.elim
  | _ :: _, [], _, _, r => r.elim
def tupG (xs : List P) : Option P := if xs.length ≤ 60 then some (.tup xs) else none
def flG (xs : List P) : Option P := if xs.length ≤ 60 then some (.fl xs) else none
def opA (g : List P → Option P) (am : AM) : EM := fun ρ η => (am ρ η).bind fun ds η => ofO ((asPs ds).bind g) η
theorem le60 {n : Nat} (h : n ≤ 60) : n ≤ sizeLine := by rw [sizeLine_eq]; omega
theorem de_tup {kk} (h : DA X G W es am) : DE X G W (.Tuple es kk pos) (opA tupG am) := iE (pe_tup h) fun σ H Q h => by
  obtain ⟨ρ, η, μ, E, HR, h⟩ := h
  refine bindA E HR h fun vs H1 μ1 ds η1 E1 HR1 r1 t1 h1 => ?_
  obtain ⟨z, e, q⟩ := ofO_fin HR1 h1
  cases ex : asPs ds with
  | none => rw [ex] at e; cases e
  | some xs =>
    simp only [ex, Option.bind_some, tupG, Option.ite_none_right_eq_some, Option.some.injEq] at e
    obtain ⟨hl, rfl⟩ := e
    have rl := asPs_rep ex r1
    exact ⟨by rw [rl.length]; exact le60 hl, fun p hp => q _ _ (Same.up hp) (newTup hp rl)⟩
theorem pe_frz {t : TE} (h : PE X e t) : PE X e (fun σ H Q => t σ H fun v H1 => (∃ p xs, v = .ref p ∧ H1 p = some (.lst xs) ∧ ∀ o, Q v (upd H1 p (.frz o (.lst xs))))) := by
  refine ⟨fun pins s σ H Q I q => thn (h.run pins s σ H _ I q) fun u s1 ⟨v, H1, I1, r1, p, xs, e, hp, q1⟩ => ?_⟩
  obtain ⟨od, I2⟩ := I1.lock hp trivial
  exact ⟨v, _, I2, r1, q1 od⟩
theorem newFl {H : Hp} {p : Addr} {vs : List V} {xs : List P} {o : Obj} (n : H p = none) (r : RepL G H vs xs) : Rep G (upd H p (.frz o (.lst vs))) (.ref p) (.fl xs) :=
  Rep.fl (.inl ⟨o, upd_same⟩) (RepL.mono (Same.imm (Same.up n)) _ r)
theorem de_fl (h : DA X G W es am) : DE X G W (.List es pos) (opA flG am) := iE (pe_frz (pe_lst h)) fun σ H Q h => by
  obtain ⟨ρ, η, μ, E, HR, h⟩ := h
  refine bindA E HR h fun vs H1 μ1 ds η1 E1 HR1 r1 t1 h1 => ?_
  obtain ⟨z, e, q⟩ := ofO_fin HR1 h1
  cases ex : asPs ds with
  | none => rw [ex] at e; cases e
  | some xs =>
    simp only [ex, Option.bind_some, flG, Option.ite_none_right_eq_some, Option.some.injEq] at e
    obtain ⟨hl, rfl⟩ := e
    have rl := asPs_rep ex r1
    refine ⟨by rw [rl.length]; exact le60 hl, fun p hp => ⟨p, vs, rfl, upd_same, fun o => ?_⟩⟩
    rw [upd_upd]
    exact q _ _ (Same.up hp) (newFl hp rl)
def newO (o : Ob) (η : RH) : Res D := .ok (.ref η.length) (η ++ [o])
theorem HeapRep.new {H : Hp} {μ : List Addr} {η : RH} {p : Addr} {u : HO} {o : Ob} (h : HeapRep G H μ η) (n : H p = none) (tk : ∀ a ∈ μ, ∃ x, H a = some x) (r : RepO G (upd H p u) (μ ++ [p]) p o) (mo : ∀ a o, RepO G H μ a o → RepO G (upd H p u) (μ ++ [p]) a o) :
    HeapRep G (upd H p u) (μ ++ [p]) (η ++ [o]) := by
  have hn : p ∉ μ := fun hm => by
    obtain ⟨x, e⟩ := tk p hm
    rw [n] at e; cases e
  refine ⟨by simp [h.len], List.nodup_append.mpr ⟨h.nd, by simp, fun a ha b hb => ?_⟩, fun i a o' e1 e2 => ?_⟩
  · simp at hb; subst hb; intro e; subst e; exact hn ha
  · by_cases hi : i < μ.length
    · rw [List.getElem?_append_left hi] at e1
      rw [List.getElem?_append_left (by rw [← h.len]; exact hi)] at e2
      exact mo a o' (h.ob i a o' e1 e2)
    · have hl : i = μ.length := by
        have := (List.getElem?_eq_some_iff.mp e1).1
        simp at this; omega
      subst hl
      rw [List.getElem?_append_right (Nat.le_refl _)] at e1
      rw [h.len, List.getElem?_append_right (Nat.le_refl _)] at e2
      simp at e1 e2
      subst e1 e2
      exact r
theorem RepO.tk {H : Hp} {μ : List Addr} {a : Addr} : ∀ {o : Ob}, RepO G H μ a o → ∃ x, H a = some x
  | .ls xs, ⟨_, h, _⟩ => ⟨_, h⟩
  | .lr ns, ⟨_, h, _⟩ => ⟨_, h⟩
  | .dc kvs, ⟨_, h, _⟩ => ⟨_, h⟩
  | .dt kvs, ⟨_, h, _⟩ => ⟨_, h⟩
  | .fz kvs, ⟨_, _, h, _⟩ => ⟨_, h⟩
  | .fn kvs, ⟨_, _, h, _⟩ => ⟨_, h⟩
  | .gone, ⟨x, h⟩ => ⟨x, h⟩
  | .ins c fs, ⟨_, _, h, _⟩ => ⟨_, h⟩
  | .tp ds, ⟨_, h, _⟩ => ⟨_, h⟩
theorem HeapRep.tk {H : Hp} {μ : List Addr} {η : RH} (h : HeapRep G H μ η) : ∀ a ∈ μ, ∃ x, H a = some x := fun a ha => by
  obtain ⟨i, hi, e⟩ := List.getElem_of_mem ha
  have h2 : i < η.length := by rw [← h.len]; exact hi
  exact (h.ob i a η[i] (by simp [hi, e]) (by simp [h2])).tk
theorem Tr.new {H : Hp} {μ : List Addr} {p : Addr} {u : HO} (n : H p = none) : Tr H μ (upd H p u) (μ ++ [p]) :=
  ⟨Same.imm (Same.up n), fun b o h _ => Same.up n b o h, fun b o h => ⟨o, Same.up n b o h⟩, [p], rfl, fun a ha => by simp at ha; subst ha; exact n⟩
theorem RepO.mono {H H' : Hp} {μ μ' : List Addr} (t : Tr H μ H' μ') (s : Same H H') {a : Addr} : ∀ {o : Ob}, RepO G H μ a o → RepO G H' μ' a o
  | .ls xs, ⟨vs, h, r⟩ => ⟨vs, s _ _ h, RepL.mono t.imm _ r⟩
  | .lr ns, ⟨as, h, r⟩ => ⟨as, s _ _ h, by
    have hl : as.length = ns.length := by simpa using congrArg List.length r
    refine List.ext_getElem? fun i => ?_
    have e := congrArg (fun l => l[i]?) r
    simp only [List.getElem?_map] at e ⊢
    cases h1 : as[i]? with
    | none =>
      rw [h1] at e
      cases h2 : ns[i]? with
      | none => rfl
      | some n => rw [h2] at e; cases e
    | some b =>
      rw [h1] at e
      cases h2 : ns[i]? with
      | none => rw [h2] at e; cases e
      | some n =>
        rw [h2] at e
        simp only [Option.map_some, Option.some.injEq] at e ⊢
        exact (t.get e.symm).symm⟩
  | .dc kvs, ⟨ks, h, e, r⟩ => ⟨ks, s _ _ h, e, RepL.mono t.imm _ r⟩
  | .dt kvs, ⟨ks, h, e, rk, r⟩ => ⟨ks, s _ _ h, e, RepL.mono t.imm _ rk, RepL.mono t.imm _ r⟩
  | .fz kvs, ⟨ob, ks, h, e, r⟩ => ⟨ob, ks, s _ _ h, e, RepL.mono t.imm _ r⟩
  | .fn kvs, ⟨ob, ks, h, e, rk, r⟩ => ⟨ob, ks, s _ _ h, e, RepL.mono t.imm _ rk, RepL.mono t.imm _ r⟩
  | .gone, ⟨x, h⟩ => t.tk _ _ h
  | .ins c fs, ⟨dx, gs, h, e, r⟩ => ⟨dx, gs, s _ _ h, e, RepDs.mono t r⟩
  | .tp ds, ⟨vs, h, r⟩ => ⟨vs, s _ _ h, RepDs.mono t r⟩
def lsO (am : AM) : EM := fun ρ η => (am ρ η).bind fun ds η => match asPs ds with
  | some xs => if xs.length ≤ 60 then newO (.ls xs) η else .bad
  | none => .bad
theorem de_ls (h : DA X G W es am) : DE X G W (.List es pos) (lsO am) := iE (pe_lst h) fun σ H Q h => by
  obtain ⟨ρ, η, μ, E, HR, h⟩ := h
  refine bindA E HR h fun vs H1 μ1 ds η1 E1 HR1 r1 t1 h1 => ?_
  cases ex : asPs ds with
  | none => simp only [ex] at h1; exact h1.elim
  | some xs =>
    simp only [ex] at h1
    have rl := asPs_rep ex r1
    split at h1
    · rename_i hl
      refine ⟨by rw [rl.length]; exact le60 hl, fun p hp => ?_⟩
      have T := Tr.new (μ := μ1) (u := .lst vs) hp
      refine (show FinE G W σ Q H1 μ1 (.ok (.ref η1.length) (η1 ++ [.ls xs])) from h1) _ _ _ T ⟨p, ?_, rfl⟩ (HR1.new hp HR1.tk ⟨vs, upd_same, RepL.mono T.imm _ rl⟩ fun a o q => RepO.mono T (Same.up hp) q)
      rw [← HR1.len]; simp
    · exact h1.elim
end
end ML
set_option Elab.async false
set_option linter.all false
set_option maxRecDepth 100000
set_option maxHeartbeats 1000000
namespace PySem
set_option maxHeartbeats 1000000 in
theorem meets_enumerate_newB1 {v : Value} {o : Obj} {H : Heap → Prop} (B : Begins v o H) :
    Meets (Builtin.«enumerate.__new__» ⟨[.type "enumerate", v], []⟩) (fun _ R s => H s.heap ∧
      R (.ok (.ret (.ref (s.heap.push o).objs.size))) { s with heap := (s.heap.push o).push { cls := .type "enumerate", data := .fields #[.none, .bool false, .ref s.heap.objs.size, rawInt 0, .none, .none] } }) :=
  .of_wp fun prog w A R s h => by
    obtain ⟨hp, g, d, tk, os⟩ := s; obtain ⟨h1, h⟩ := h
    have hsub := sub_enumerate
    have q1 : ∀ {A' : Around} {E : Value → Shared → Prop} {Q : Value → Shared → Prop}, Q (.ref hp.objs.size) ⟨hp.push o, g, d, tk, os⟩ → wpAny (model prog w) A' (pyIter v) Q E ⟨hp, g, d, tk, os⟩ :=
      fun q => B.iter prog w _ _ ⟨hp, g, d, tk, os⟩ _ h1 q
    wp_walk using q1
    refine wpAny_stack_any fun st => wpAny_pure ?_
    split
    · rename_i c _ _ _ _ _
      cases (c == Value.type "enumerate")
      · wp_walk using q1
        exact ⟨_, rfl, h⟩
      · wp_walk using q1
        exact ⟨_, rfl, h⟩
    · wp_walk using q1
      exact ⟨_, rfl, h⟩
section
variable {prog : Program} {w : World} {A : Around} {E : Value → Shared → Prop} {s : Shared}
theorem enum_begins1 {v : Value} {o : Obj} {H : Heap → Prop} {Q : Value → Shared → Prop} (B : Begins v o H) (h1 : H s.heap)
    (h : ∀ h', IsEnum h' (s.heap.objs.size + 1) s.heap.objs.size 0 .none → h'.get? s.heap.objs.size = some o → h'.objs.size = s.heap.objs.size + 2 →
      (∀ b o, s.heap.get? b = some o → h'.get? b = some o) → Q (.ref (s.heap.objs.size + 1)) { s with heap := h' }) :
    wpAny (model prog w) A (call (.type "enumerate") [v]) Q E s := by
  refine callType_new F.called_enumerate (by decide) (F.typeCall_enumerate_1 _) (F.newCall_enumerate_1 _) (fun obj => F.args_object_init_2 obj _) F.entry_enumerate_new
    (meets_enumerate_newB1 B) ⟨h1, ?_⟩
  have hz : (s.heap.push o).objs.size = s.heap.objs.size + 1 := Heap.size_push ..
  show _ ∧ _
  rw [hz]
  have he : IsEnum ((s.heap.push o).push { cls := .type "enumerate", data := .fields #[.none, .bool false, .ref s.heap.objs.size, rawInt 0, .none, .none] }) (s.heap.objs.size + 1) s.heap.objs.size 0 .none := by
    have := Heap.get?_push_size (s.heap.push o) (o := { cls := .type "enumerate", data := .fields #[.none, .bool false, .ref s.heap.objs.size, rawInt 0, .none, .none] }) rfl
    rw [hz] at this; exact this
  refine ⟨⟨_, he, rfl⟩, h _ he (Heap.get?_push_of_some _ (Heap.get?_push_size _ B.free)) (by rw [Heap.size_push, hz]) fun b o x => Heap.get?_push_of_some _ (Heap.get?_push_of_some _ x)⟩
end
end PySem
namespace ML
open PySem PySem.Spec PyProof.Rows L2
def IteT (K : PySem.W.Frag) (a : Addr) : It :=
  ⟨fun i H => ∃ (xs : List V) (x : V), SqT K H a xs ∧ xs[i]? = some x, fun i H v H' => ∃ T x, v = .ref T ∧ H T = none ∧ H' = upd H T (.tup [.int (i : Nat), x]) ∧ ∀ xs, SqT K H a xs → xs[i]? = some x, fun i H => ∃ xs : List V, SqT K H a xs ∧ xs.length ≤ i⟩
theorem turn_enumT {P : Program} {w : World} {K : PySem.W.Frag} {elts : List Expr} {kk : Nat} {tpos : Pos} (a e it : Addr) :
    Turn P w K (.Tuple elts kk tpos) (IteT K a) [e, it] e (fun i h => (∃ old, IsEnum h e it ((i : Nat) : Int) old) ∧ h.IsTupleIter it a i ∧ e ≠ it) where
  mem := by simp
  obj := fun i h st b hb => by
    obtain ⟨⟨old, he⟩, ⟨o, ho, hc, hd⟩, _⟩ := st
    have e' : b = e ∨ b = it := by simpa using hb
    rcases e' with z | z
    · rw [z]; exact ⟨_, he, fun v q => nomatch q⟩
    · rw [z]; exact ⟨o, ho, fun v q => by rw [hd] at q; cases q⟩
  keep := fun i h h' st k => let ⟨⟨old, he⟩, hi, hne⟩ := st; ⟨⟨old, k e (by simp) _ he⟩, hi.at fun o q => k it (by simp) o q, hne⟩
  item := by
    intro X hP hw hK hc i pins s σ H E I hf st hg
    subst hP hw hK
    obtain ⟨⟨old, he⟩, hit, hne⟩ := st
    obtain ⟨xs, x, hq, hx⟩ := hg
    obtain ⟨its, rv, p, hz⟩ := I.tuple hq
    obtain ⟨u, hu, ru⟩ := rv.get hx
    have hel : e < s.heap.objs.size := Heap.lt_size he
    have hil : it < s.heap.objs.size := by obtain ⟨_, q, _⟩ := hit; exact Heap.lt_size q
    have hia : a ≠ it := fun z => by
      obtain ⟨_, q, c1, _⟩ := hit
      obtain ⟨_, q2, c2, _⟩ := p
      rw [z, q] at q2; cases q2; rw [c1] at c2; exact absurd (Value.type.inj c2) (by decide)
    have hea : e ≠ a := fun z => by
      obtain ⟨_, q2, c2, _⟩ := p
      have q : s.heap.get? e = _ := he
      rw [← z, q] at q2; cases q2; exact absurd (Value.type.inj c2) (by decide)
    have hlt : i < its.toArray.size := by
      have := (List.getElem?_eq_some_iff.mp hu).1
      simpa using this
    refine wpAny_pyNext_enum_itemD (Draws.tuple (A := X.A.in1) (I.ok.hd hc) it a hia its.toArray) he ⟨hit, p⟩ hlt hne (by simp [hne, hea]) fun x' h' tk hP ho hs' hT hsz hk => ?_
    have hxu : x' = u := by
      have hP' : its.toArray[i]? = some x' := hP
      rw [show its.toArray[i]? = some u by simpa using hu] at hP'
      exact (Option.some.inj hP').symm
    subst hxu
    refine ⟨_, rfl, wpAny_letOwnedTupleGo_enum (s := { s with heap := h', toks := tk + 1 }) ho fun h'' he' sb => ?_⟩
    have hT2 : h''.get? s.heap.objs.size = some { cls := .type "tuple", data := .seq #[.int i tk, x'] } := (sb.2 _ (Nat.ne_of_gt hel)).trans hT
    have new : ObjOk X.prog X.w (upd H s.heap.objs.size (.tup [.int (i : Nat), x])) h'' s.heap.objs.size (.tup [.int (i : Nat), x]) :=
      ⟨by show 2 ≤ sizeLine; decide, [.int i tk, x'], .cons ⟨_, rfl⟩ (.cons ru .nil), ⟨_, hT2, rfl, _, rfl⟩⟩
    have I1 : Inv X pins σ (upd H s.heap.objs.size (.tup [.int (i : Nat), x])) { s with heap := h'', toks := tk + 1 } :=
      I.turnedNew (ch := [e, it]) (fun b ob hb q => (sb.2 b (fun z => hb (by simp [z]))).trans (hk b ob (fun z => hb (by simp [z])) (fun z => hb (by simp [z])) q)) hf (Nat.le_refl _) new
    refine ⟨.ref s.heap.objs.size, _, I1, rfl, ⟨_, x, rfl, I.hok.fresh (Nat.le_refl _), rfl, fun ys hy => by rw [I.tuple_inj hy hq]; exact hx⟩, ⟨⟨x', ?_⟩, hs'.1.at fun o q => (sb.2 it (Ne.symm hne)).trans q, hne⟩, fun b hb => ?_⟩
    · have e1 : ((i + 1 : Nat) : Int) = (i : Int) + 1 := by omega
      rw [e1]; exact he'
    · have hb' : b < s.heap.objs.size := by
        have e' : b = e ∨ b = it := by simpa using hb
        rcases e' with z | z
        · rw [z]; exact hel
        · rw [z]; exact hil
      rw [upd_ne (Nat.ne_of_lt hb')]
      exact (hf b hb).1
  done := by
    intro X hP hw hK hc i pins s σ H E I hf st hg
    subst hP hw hK
    obtain ⟨⟨old, he⟩, hit, hne⟩ := st
    obtain ⟨xs, hq, hx⟩ := hg
    obtain ⟨its, rv, p, hz⟩ := I.tuple hq
    obtain ⟨f0, f1, f2, f3, f4, f5⟩ := hf it (by simp)
    have hl := rv.length
    have hT : s.TypeIs (.ref e) "enumerate" := ⟨_, he, rfl⟩
    unfold pyNext
    refine wpAny_bind (wpAny_attempt (wpAny_callSpecial?_slot (name := Str.ofString "__next__") hT F.slot_enumerate_next
      (wpAny_call_entry F.slot_enumerate_next hT F.entry_enumerate_next ?_ (F.args_enumerate_next_1 _))))
    show wpAny _ _ (field (.ref e) 2 >>= _) _ _ _
    refine wpAny_bind (wpAny_field he rfl (x := .ref it) rfl ?_)
    refine wpAny_bind (wpAny_nextOf_tuple_end (I.ok.hd hc) hit p (by simp; omega) fun h' x eb hx' => ?_)
    obtain ⟨o, ho, hc'⟩ := hx'
    refine wpAny_bind (wpAny_isInstance (T := "StopIteration") (b := true) ⟨o, ho, hc'⟩ isSubtype_stop ?_)
    exact wpAny_pure ⟨rfl, I.turned (t' := s.toks) (fun b o hb q => eb b o hb q) f0 f1 f3 f4 f5⟩
  self := fun A i s Q E st h => let ⟨⟨_, he⟩, _⟩ := st; wpAny_pyIter_enum he h
def iEnumT (K : PySem.W.Frag) (ta : TA) : TI := fun σ H R => ta σ H fun vs H1 => ∃ a xs, vs = [.ref a] ∧ SqT K H1 a xs ∧ R (IteT K a) H1
theorem pi_enumT {X : Cx} {e : Expr} {ta : TA} {p pos tpos : Pos} {elts : List Expr} {kk : Nat} (hg : Gl X "enumerate") (hm : X.mg "enumerate" = none) (ha : PA X [e] ta) (hs : starEach [e] X.env = [(false, eval e X.env)] := by rfl) :
    PI X (.Tuple elts kk tpos) (.Call (.Name "enumerate" p) [e] [] pos) (iEnumT X.K ta) := by
  refine ⟨fun pins s σ H R I h => ?_⟩
  refine Call_ (ld_blt I hg hm boot_enumerate (PyProof.Rows.callWith_type1 (thn (ha.run pos pins s σ H _ I h) fun us s1 ⟨vs, H1, I1, r1, q1⟩ => ?_) hs rfl))
  obtain ⟨a, xs, ex, hq, q⟩ := q1
  subst ex
  cases r1 with
  | cons r rr =>
    cases rr
    cases r
    obtain ⟨its, rv, p', hz⟩ := I1.tuple hq
    refine enum_begins1 (begins_tuple a its.toArray) p' fun h' he hit hsz hk => wpAny_pyIter_enum he ?_
    have I2 : Inv X pins σ H1 { s1 with heap := h' } := I1.kept (t' := s1.toks) hk
    refine ⟨s1.heap.objs.size + 1, [s1.heap.objs.size + 1, s1.heap.objs.size], _, _, H1, rfl, I2, turn_enumT a (s1.heap.objs.size + 1) s1.heap.objs.size, ⟨⟨.none, he⟩, ⟨_, hit, rfl, rfl⟩, Nat.succ_ne_self _⟩, fun b hb => ?_, q⟩
    have e' : b = s1.heap.objs.size + 1 ∨ b = s1.heap.objs.size := by simpa using hb
    have hle : s1.heap.objs.size ≤ b := by
      rcases e' with z | z
      · rw [z]; exact Nat.le_add_right _ _
      · rw [z]; exact Nat.le_refl _
    exact I1.fpOk hle (I1.hok.fresh hle)
theorem walk_enumT {K : PySem.W.Frag} {a : Addr} {xs : List V} : Walk (IteT K a) xs.length (fun H => SqT K H a xs) (YPair (fun i => some (.int (i : Nat))) (fun i => xs[i]?)) := by
  refine ⟨fun i _ hi q => ⟨xs, xs[i], q, by simp [hi]⟩, fun _ q => ⟨xs, q, Nat.le_refl _⟩, fun i H v H' _ q y => ?_⟩
  obtain ⟨T, x, h1, h2, h3, h4⟩ := y
  exact ⟨T, .int (i : Nat), x, h1, h2, h3, rfl, h4 xs q⟩
end ML
set_option Elab.async false
set_option linter.all false
set_option maxRecDepth 100000
set_option maxHeartbeats 1000000
namespace ML
open PySem PySem.Spec PyProof.Rows L2
def ItR (G : Gd) (J : It) (H : Hp) (xs : List P) : Prop :=
  ∃ (Gs : Hp → Prop) (Y : Nat → Hp → V → Hp → Prop), Walk J xs.length Gs Y ∧ (∀ H2, Imm H H2 → Gs H2) ∧ ∀ i H2 v H3, i < xs.length → Imm H H2 → Y i H2 v H3 → Same H2 H3 ∧ ∃ x, xs[i]? = some x ∧ Rep G H3 v x
abbrev IM := LEnv → RH → Res (List P)
def tMI (G : Gd) (W : WX) (m : IM) : TI := fun σ H R => ∃ ρ η μ, EnvRep G H μ σ ρ ∧ HeapRep G H μ η ∧ Fin (fun H' _ J xs => ItR G J H' xs) G W σ R H μ (m ρ η)
theorem piOr {X : Cx} {tg e : Expr} {t t' : TI} (h : PI X tg e t) (h' : PI X tg e t') : PI X tg e (fun σ H R => t σ H R ∨ t' σ H R) :=
  ⟨fun pins s σ H R I q => q.elim (h.run pins s σ H R I) (h'.run pins s σ H R I)⟩
theorem iI {X : Cx} {tg e : Expr} {t t' : TI} (h : PI X tg e t) (i : ∀ σ H Q, t' σ H Q → t σ H Q) : PI X tg e t' := ⟨fun pins s σ H Q I q => h.run pins s σ H Q I (i σ H Q q)⟩
def seqP : P → Option (List P)
  | .fl xs => some xs
  | .tup xs => some xs
  | .str z => some (z.cps.toList.map fun c => .str ⟨#[c]⟩)
  | _ => none
def ofL (o : Option (List P)) (η : RH) : Res (List P) := match o with
  | some xs => .ok xs η
  | none => .bad
def iterM (m : EM) : IM := fun ρ η => (m ρ η).bind fun d η => ofL ((asP d).bind seqP) η
section
variable {X : Cx} {G : Gd} {W : WX} {k : Nat}
theorem itr_list {H : Hp} {p : Addr} {vs : List V} {xs : List P} (s : SqF G.K H p vs) (r : RepL G H vs xs) : ItR G (Itl G.K p) H xs :=
  ⟨_, _, r.length ▸ walk_list (xs := vs), fun H2 im => (im.sqF s).sq, fun i H2 v H3 hi im y => by
    obtain ⟨rfl, hv⟩ := y
    obtain ⟨x, hx, rx⟩ := r.getV hv
    exact ⟨Same.refl _, x, hx, Rep.mono im x rx⟩⟩
theorem itr_tup {H : Hp} {p : Addr} {vs : List V} {xs : List P} (s : SqT G.K H p vs) (r : RepL G H vs xs) : ItR G (Itt G.K p) H xs :=
  ⟨_, _, r.length ▸ walk_tup (xs := vs), fun H2 im => im.sqT s, fun i H2 v H3 hi im y => by
    obtain ⟨rfl, hv⟩ := y
    obtain ⟨x, hx, rx⟩ := r.getV hv
    exact ⟨Same.refl _, x, hx, Rep.mono im x rx⟩⟩
theorem itr_str {H : Hp} {z : Str} : ItR G (Its z) H (z.cps.toList.map fun c => P.str ⟨#[c]⟩) := by
  have hl : (z.cps.toList.map fun c => P.str ⟨#[c]⟩).length = z.cps.size := by simp
  refine ⟨fun _ => True, _, by rw [hl]; exact walk_str, fun _ _ => trivial, fun i H2 v H3 hi im y => ?_⟩
  obtain ⟨rfl, c, hc, rfl⟩ := y
  exact ⟨Same.refl _, .str ⟨#[c]⟩, by simp [hc], Rep.str _⟩
theorem di_seq {tg e : Expr} {m : EM} (c : Ctx X G W k) (h : DE X G W e m) : PI X tg e (tMI G W (iterM m)) := by
  refine iI (piOr (pi_list h) (piOr (pi_tup h) (pi_str h))) fun σ H R q => ?_
  obtain ⟨ρ, η, μ, E, HR, q⟩ := q
  unfold iterM at q
  cases hm : m ρ η with
  | bad => rw [hm] at q; exact q.elim
  | ex cl xs η1 => rw [hm] at q; exact .inl ⟨ρ, η, μ, E, HR, by rw [hm]; exact q⟩
  | ok d η1 =>
    rw [hm] at q
    cases d with
    | ref n => exact q.elim
    | xv c xs => exact q.elim
    | p x =>
      cases x with
      | fl xs =>
        refine .inl ⟨ρ, η, μ, E, HR, ?_⟩
        rw [hm]
        intro v H' μ' t r hr
        have r : Rep G H' v (.fl xs) := r
        unfold Rep at r
        obtain ⟨p, vs, rfl, s, rl⟩ := r
        rw [c.hK]
        exact ⟨p, rfl, ⟨vs, s.sq⟩, (show Fin _ G W σ R H μ (.ok xs η1) from q) _ H' μ' t (itr_list s rl) hr⟩
      | tup xs =>
        refine .inr (.inl ⟨ρ, η, μ, E, HR, ?_⟩)
        rw [hm]
        intro v H' μ' t r hr
        obtain ⟨p, vs, rfl, s, rl⟩ := repTup (Rep.view (show Rep G H' v (.tup xs) from r))
        rw [c.hK]
        exact ⟨p, rfl, ⟨vs, s⟩, (show Fin _ G W σ R H μ (.ok xs η1) from q) _ H' μ' t (itr_tup s rl) hr⟩
      | str z =>
        refine .inr (.inr ⟨ρ, η, μ, E, HR, ?_⟩)
        rw [hm]
        intro v H' μ' t r hr
        exact ⟨z, repStr (Rep.view (show Rep G H' v (.str z) from r)), (show Fin _ G W σ R H μ (.ok _ η1) from q) _ H' μ' t itr_str hr⟩
      | _ => exact q.elim
def rangeP (lo : Int) (n : Nat) : List P := (List.range n).map fun i : Nat => .int (lo + i)
def rngG1 : List P → Option (List P)
  | [.int j] => if -(2 ^ 62) ≤ j ∧ j < 2 ^ 62 then some (rangeP 0 j.toNat) else none
  | _ => none
def rngG2 : List P → Option (List P)
  | [.int i, .int j] => if -(2 ^ 62) ≤ i ∧ i < 2 ^ 62 ∧ -(2 ^ 62) ≤ j ∧ j < 2 ^ 62 then some (rangeP i (j - i).toNat) else none
  | _ => none
def itA (g : List P → Option (List P)) (am : AM) : IM := fun ρ η => (am ρ η).bind fun ds η => ofL ((asPs ds).bind g) η
theorem itr_range {H : Hp} {lo : Int} {n : Nat} : ItR G (Itr lo n) H (rangeP lo n) := by
  have hl : (rangeP lo n).length = n := by simp [rangeP]
  refine ⟨fun _ => True, _, by rw [hl]; exact walk_range, fun _ _ => trivial, fun i H2 v H3 hi im y => ?_⟩
  obtain ⟨rfl, rfl⟩ := y
  rw [hl] at hi
  exact ⟨Same.refl _, .int (lo + i), by simp [rangeP, hi], Rep.int _⟩
theorem ofL_fin {R : It → Hp → Prop} {σ : SV} {H : Hp} {μ : List Addr} {o : Option (List P)} {η : RH} (h : Fin (fun H' _ J xs => ItR G J H' xs) G W σ R H μ (ofL o η)) : ∃ z, o = some z ∧ Fin (fun H' _ J xs => ItR G J H' xs) G W σ R H μ (.ok z η) := by
  cases o with
  | none => exact h.elim
  | some z => exact ⟨z, rfl, h⟩
theorem di_range1 {tg a : Expr} {am : AM} {p pos : Pos} (hg : Gl X "range") (hm : X.mg "range" = none) (ha : DA X G W [a] am) (hs : starEach [a] X.env = [(false, eval a X.env)] := by rfl) : PI X tg (.Call (.Name "range" p) [a] [] pos) (tMI G W (itA rngG1 am)) := by
  refine iI (pi_range1 hg hm ha hs) fun σ H R q => ?_
  obtain ⟨ρ, η, μ, E, HR, q⟩ := q
  refine bindA E HR q fun vs H1 μ1 ds η1 E1 HR1 r1 t1 h1 => ?_
  obtain ⟨z, e, q⟩ := ofL_fin h1
  cases ex : asPs ds with
  | none => rw [ex] at e; cases e
  | some xs =>
    rw [ex, Option.bind_some] at e
    have rl := asPs_rep ex r1
    unfold rngG1 at e
    split at e
    · rename_i j
      simp only [Option.ite_none_right_eq_some, Option.some.injEq] at e
      obtain ⟨hb, rfl⟩ := e
      exact ⟨j, rl.ints (ns := [j]), hb.1, hb.2, q _ H1 μ1 Tr.refl itr_range HR1⟩
    · cases e
theorem di_range2 {tg a b : Expr} {am : AM} {p pos : Pos} (hg : Gl X "range") (hm : X.mg "range" = none) (ha : DA X G W [a, b] am) (hs : starEach [a, b] X.env = [(false, eval a X.env), (false, eval b X.env)] := by rfl) (hs2 : starEach [b] X.env = [(false, eval b X.env)] := by rfl) :
    PI X tg (.Call (.Name "range" p) [a, b] [] pos) (tMI G W (itA rngG2 am)) := by
  refine iI (pi_range2 hg hm ha hs hs2) fun σ H R q => ?_
  obtain ⟨ρ, η, μ, E, HR, q⟩ := q
  refine bindA E HR q fun vs H1 μ1 ds η1 E1 HR1 r1 t1 h1 => ?_
  obtain ⟨z, e, q⟩ := ofL_fin h1
  cases ex : asPs ds with
  | none => rw [ex] at e; cases e
  | some xs =>
    rw [ex, Option.bind_some] at e
    have rl := asPs_rep ex r1
    unfold rngG2 at e
    split at e
    · rename_i i j
      simp only [Option.ite_none_right_eq_some, Option.some.injEq] at e
      obtain ⟨hb, rfl⟩ := e
      exact ⟨i, j, rl.ints (ns := [i, j]), hb, q _ H1 μ1 Tr.refl itr_range HR1⟩
    · cases e
def enumP : Nat → List P → List P
  | _, [] => []
  | n, x :: xs => .tup [.int (n : Nat), x] :: enumP (n + 1) xs
theorem enumP_length : ∀ (n : Nat) (xs : List P), (enumP n xs).length = xs.length
  | _, [] => rfl
  | n, x :: xs => by simp [enumP, enumP_length (n + 1) xs]
theorem enumP_get : ∀ (n : Nat) (xs : List P) (i : Nat) (x : P), xs[i]? = some x → (enumP n xs)[i]? = some (.tup [.int ((n + i : Nat) : Int), x])
  | _, [], _, _, h => by simp at h
  | n, y :: xs, 0, x, h => by simp at h; subst h; simp [enumP]
  | n, y :: xs, i + 1, x, h => by
    have := enumP_get (n + 1) xs i x (by simpa using h)
    simp only [enumP, List.getElem?_cons_succ, this]
    congr 5; omega
def enG : List P → Option (List P)
  | [.fl xs] => some (enumP 0 xs)
  | [.tup xs] => some (enumP 0 xs)
  | _ => none
theorem itr_enum {J : It} {Gs : Hp → Prop} {H : Hp} {vs : List V} {xs : List P} (w : Walk J vs.length Gs (YPair (fun i => some (.int (i : Nat))) (fun i => vs[i]?))) (hg : ∀ H2, Imm H H2 → Gs H2) (r : RepL G H vs xs) : ItR G J H (enumP 0 xs) := by
  refine ⟨Gs, _, by rw [enumP_length, ← r.length]; exact w, hg, fun i H2 v H3 hi im y => ?_⟩
  obtain ⟨T, x, y, rfl, hT, rfl, hx, hy⟩ := y
  cases hx
  obtain ⟨z, hz, rz⟩ := r.getV hy
  refine ⟨Same.up hT, _, enumP_get 0 xs i z hz, ?_⟩
  rw [Nat.zero_add]
  exact newTup hT (RepL.cons (Rep.int _) (RepL.one (Rep.mono im z rz)))
theorem di_enum {e : Expr} {am : AM} {p pos tpos : Pos} {elts : List Expr} {kk : Nat} (c : Ctx X G W k) (hg : Gl X "enumerate") (hm : X.mg "enumerate" = none) (ha : DA X G W [e] am) (hs : starEach [e] X.env = [(false, eval e X.env)] := by rfl) :
    PI X (.Tuple elts kk tpos) (.Call (.Name "enumerate" p) [e] [] pos) (tMI G W (itA enG am)) := by
  refine iI (piOr (pi_enum hg hm ha hs) (pi_enumT hg hm ha hs)) fun σ H R q => ?_
  obtain ⟨ρ, η, μ, E, HR, q⟩ := q
  unfold itA at q
  cases hma : am ρ η with
  | bad => rw [hma] at q; exact q.elim
  | ex cl xs η1 => rw [hma] at q; exact .inl ⟨ρ, η, μ, E, HR, by rw [hma]; exact q⟩
  | ok ds η1 =>
    rw [hma, Res.bind_ok] at q
    obtain ⟨z, e, q⟩ := ofL_fin q
    cases ex : asPs ds with
    | none => rw [ex] at e; cases e
    | some xs =>
      rw [ex, Option.bind_some] at e
      unfold enG at e
      split at e
      · cases e
        rename_i xs
        refine .inl ⟨ρ, η, μ, E, HR, ?_⟩
        rw [hma]
        intro vs H' μ' t r hr
        have rl := asPs_rep ex r
        obtain ⟨v, ws, rfl, rv, rn⟩ := rl.cons_inv
        cases rn.nil_inv
        unfold Rep at rv
        obtain ⟨p, us, rfl, s, ru⟩ := rv
        rw [c.hK]
        exact ⟨p, us, rfl, s.sq, q _ H' μ' t (itr_enum walk_enum (fun H2 im => (im.sqF s).sq) ru) hr⟩
      · cases e
        rename_i xs
        refine .inr ⟨ρ, η, μ, E, HR, ?_⟩
        rw [hma]
        intro vs H' μ' t r hr
        have rl := asPs_rep ex r
        obtain ⟨v, ws, rfl, rv, rn⟩ := rl.cons_inv
        cases rn.nil_inv
        obtain ⟨p, us, rfl, s, ru⟩ := repTup (Rep.view rv)
        rw [c.hK]
        exact ⟨p, us, rfl, s, q _ H' μ' t (itr_enum walk_enumT (fun H2 im => im.sqT s) ru) hr⟩
      · cases e
inductive Tg where
  | nm (i : Nat) | tp (ts : List Tg)
mutual
def tgS : Tg → D → LEnv → Option LEnv
  | .nm i, d, ρ => some (ρ.set i (some d))
  | .tp ts, .p (.tup xs), ρ => tgsS ts xs ρ
  | .tp _, _, _ => none
def tgsS : List Tg → List P → LEnv → Option LEnv
  | [], [], ρ => some ρ
  | t :: ts, x :: xs, ρ => (tgS t (.p x) ρ).bind (tgsS ts xs)
  | _, _, _ => none
end
mutual
def slots : Tg → List Nat
  | .nm i => [i]
  | .tp ts => slotsL ts
def slotsL : List Tg → List Nat
  | [] => []
  | t :: ts => slots t ++ slotsL ts
end
def OnlyAt (is : List Nat) (σ σ' : SV) : Prop := σ'.length = σ.length ∧ ∀ j, j ∉ is → σ'[j]? = σ[j]?
theorem OnlyAt.refl {is : List Nat} {σ : SV} : OnlyAt is σ σ := ⟨rfl, fun _ _ => rfl⟩
theorem OnlyAt.trans {is js : List Nat} {σ σ1 σ2 : SV} (a : OnlyAt is σ σ1) (b : OnlyAt js σ1 σ2) : OnlyAt (is ++ js) σ σ2 :=
  ⟨b.1.trans a.1, fun j h => (b.2 j fun z => h (List.mem_append_right _ z)).trans (a.2 j fun z => h (List.mem_append_left _ z))⟩
theorem EnvRep.set {H : Hp} {μ : List Addr} {σ : SV} {ρ : LEnv} {v : V} {d : D} (E : EnvRep G H μ σ ρ) (r : RepD G H μ v d) (i : Nat) : EnvRep G H μ (σ.set i (some v)) (ρ.set i (some d)) := by
  refine ⟨by simp [E.len], fun j d' h => ?_⟩
  by_cases hj : i = j
  · subst hj
    have hl : i < ρ.length := by
      have := (List.getElem?_eq_some_iff.mp h).1
      simpa using this
    rw [List.getElem?_set_self hl] at h
    cases h
    exact ⟨v, by rw [List.getElem?_set_self (by rw [E.len]; exact hl)], r⟩
  · rw [List.getElem?_set_ne hj] at h
    obtain ⟨u, h1, h2⟩ := E.at' j d' h
    exact ⟨u, by rw [List.getElem?_set_ne hj]; exact h1, h2⟩
def gM (G : Gd) (t : Tg) : TG := fun v σ H Q => ∃ ρ μ d ρ', EnvRep G H μ σ ρ ∧ RepD G H μ v d ∧ tgS t d ρ = some ρ' ∧ ∀ σ', EnvRep G H μ σ' ρ' → OnlyAt (slots t) σ σ' → Q σ' H
def gMs (G : Gd) (ts : List Tg) : TGs := fun vs σ H Q => ∃ ρ μ xs ρ', EnvRep G H μ σ ρ ∧ RepL G H vs xs ∧ tgsS ts xs ρ = some ρ' ∧ ∀ σ', EnvRep G H μ σ' ρ' → OnlyAt (slotsL ts) σ σ' → Q σ' H
abbrev DG (X : Cx) (G : Gd) (e : Expr) (t : Tg) : Prop := PG X e (gM G t)
abbrev DGs (X : Cx) (G : Gd) (es : List Expr) (ts : List Tg) : Prop := PGs X es (gMs G ts)
theorem iG {e : Expr} {t t' : TG} (h : PG X e t) (i : ∀ v σ H Q, t' v σ H Q → t v σ H Q) : PG X e t' := ⟨fun pins s σ H v u Q I r q => h.run pins s σ H v u Q I r (i v σ H Q q)⟩
theorem iGs {e : List Expr} {t t' : TGs} (h : PGs X e t) (i : ∀ v σ H Q, t' v σ H Q → t v σ H Q) : PGs X e t' := ⟨fun pins s σ H v u Q I r q => h.run pins s σ H v u Q I r (i v σ H Q q)⟩
theorem dg_nm (i : Nat) {x : Str} {pos : Pos} (hN : X.N.Nodup) (hi : X.N[i]? = some x := by rfl) (hx : Loc X.env.scope x := by first | exact .inl rfl | exact .inr rfl) (hf : X.fn x = true ∨ X.env.scope.names.lookup x = some .local := by first | exact .inl rfl | exact .inr rfl | assumption) : DG X G (.Name x pos) (.nm i) :=
  iG (pg_name hN hi hx hf) fun v σ H Q q => by
    obtain ⟨ρ, μ, d, ρ', E, r, e, q⟩ := q
    unfold tgS at e
    cases e
    refine q _ (E.set r i) ⟨by simp, fun j hj => ?_⟩
    unfold slots at hj
    exact List.getElem?_set_ne (fun z => hj (by simp [z]))
theorem dgs_nil : DGs X G [] [] := iGs pgs_nil fun v σ H Q q => by
  obtain ⟨ρ, μ, xs, ρ', E, r, e, q⟩ := q
  cases xs with
  | nil => unfold tgsS at e; cases e; exact ⟨r.nil_inv, q σ E OnlyAt.refl⟩
  | cons x xs => unfold tgsS at e; cases e
theorem dgs_cons {e : Expr} {es : List Expr} {t : Tg} {ts : List Tg} (h1 : DG X G e t) (h2 : DGs X G es ts) (hs : (assignEach (e :: es) X.env).map (·.2) = assign e X.env :: (assignEach es X.env).map (·.2) := by rfl) : DGs X G (e :: es) (t :: ts) :=
  iGs (pgs_cons h1 h2 hs) fun v σ H Q q => by
    obtain ⟨ρ, μ, xs, ρ', E, r, e, q⟩ := q
    cases xs with
    | nil => unfold tgsS at e; cases e
    | cons x xs =>
      obtain ⟨w, ws, rfl, rw', rt⟩ := r.cons_inv
      unfold tgsS at e
      cases e1 : tgS t (.p x) ρ with
      | none => rw [e1] at e; cases e
      | some ρ1 =>
        rw [e1, Option.bind_some] at e
        refine ⟨w, ws, rfl, ρ, μ, .p x, ρ1, E, rw', e1, fun σ1 E1 o1 => ⟨ρ1, μ, xs, ρ', E1, rt, e, fun σ2 E2 o2 => q σ2 E2 ?_⟩⟩
        unfold slotsL
        exact o1.trans o2
theorem tgsS_len : ∀ {ts : List Tg} {xs : List P} {ρ ρ' : LEnv}, tgsS ts xs ρ = some ρ' → xs.length = ts.length
  | [], [], _, _, _ => rfl
  | [], _ :: _, _, _, h => by unfold tgsS at h; cases h
  | _ :: _, [], _, _, h => by unfold tgsS at h; cases h
  | t :: ts, x :: xs, ρ, ρ', h => by
    unfold tgsS at h
    cases e : tgS t (.p x) ρ with
    | none => rw [e] at h; cases h
    | some ρ1 =>
      rw [e, Option.bind_some] at h
      simp [tgsS_len h]
theorem dg_tp {es : List Expr} {ts : List Tg} {kk : Nat} {pos : Pos} (hc : X.calm = true) (hK : X.K = G.K) (h : DGs X G es ts) (hl : (assignEach es X.env).length = ts.length := by rfl) (hst : (assignEach es X.env).findIdx? (·.1) = none := by rfl) : DG X G (.Tuple es kk pos) (.tp ts) :=
  iG (pg_tup hc h hl hst) fun v σ H Q q => by
    obtain ⟨ρ, μ, d, ρ', E, r, e, q⟩ := q
    cases d with
    | ref n => unfold tgS at e; cases e
    | xv c xs => unfold tgS at e; cases e
    | p x =>
      cases x <;> first | (unfold tgS at e; cases e; done) | skip
      rename_i xs
      obtain ⟨p, vs, rfl, s, rl⟩ := repTup (Rep.view (show Rep G H v (.tup xs) from r))
      unfold tgS at e
      rw [hK]
      exact ⟨p, vs, rfl, s, by rw [rl.length]; exact tgsS_len e, ρ, μ, xs, ρ', E, rl, e, fun σ' E' o => q σ' E' (by unfold slots; exact o)⟩
end
end ML
set_option Elab.async false
set_option linter.all false
set_option maxRecDepth 100000
set_option maxHeartbeats 1000000
namespace ML
open PySem PySem.Spec PyProof.Rows L2
def wipeE (ρ : LEnv) : List Nat → LEnv
  | [] => ρ
  | v :: vs => (wipeE ρ vs).set v none
def compL (t : Tg) (tt : TM) (te : EM) (ρ0 : LEnv) : List P → RH → Res (List P)
  | [], η => .ok [] η
  | x :: xs, η => match tgS t (.p x) ρ0 with
    | none => .bad
    | some ρ1 => (tt ρ1 η).bind fun b η => if b = true then (te ρ1 η).bind fun d η => match asP d with
        | some y => (compL t tt te ρ0 xs η).bind fun ys η => .ok (y :: ys) η
        | none => .bad
      else compL t tt te ρ0 xs η
def nox {α : Type} : Res α → Res α
  | .ex _ _ _ => .bad
  | r => r
def yesT : TM := fun _ η => .ok true η
def compM (im : IM) (t : Tg) (tt : TM) (te : EM) (vs : List Nat) : EM := fun ρ η => (im ρ η).bind fun xs η => if xs.length ≤ sizeLine then (nox (compL t tt te (wipeE ρ vs) xs η)).bind fun ys η => .ok (.p (.fl ys)) η else .bad
section
variable {X : Cx} {G : Gd} {W : WX} {k : Nat}
theorem wipeE_length (ρ : LEnv) : ∀ vs : List Nat, (wipeE ρ vs).length = ρ.length
  | [] => rfl
  | v :: vs => by unfold wipeE; rw [List.length_set, wipeE_length ρ vs]
theorem wipeE_get {ρ : LEnv} {i : Nat} {d : D} : ∀ {vs : List Nat}, (wipeE ρ vs)[i]? = some (some d) → ρ[i]? = some (some d) ∧ i ∉ vs
  | [], h => ⟨h, by simp⟩
  | v :: vs, h => by
    unfold wipeE at h
    by_cases e : v = i
    · subst e
      have hl := (List.getElem?_eq_some_iff.mp h).1
      rw [List.getElem?_set_self (by simpa using hl)] at h
      cases h
    · rw [List.getElem?_set_ne e] at h
      obtain ⟨h1, h2⟩ := wipeE_get h
      exact ⟨h1, by simp [h2]; exact fun z => e z.symm⟩
theorem wipe_get {σ : SV} {i : Nat} : ∀ {vs : List Nat}, i ∉ vs → (wipe σ vs)[i]? = σ[i]?
  | [], _ => rfl
  | v :: vs, h => by
    unfold wipe
    rw [List.getElem?_set_ne (fun e => h (by simp [e]))]
    exact wipe_get fun z => h (List.mem_cons_of_mem _ z)
theorem wipe_in {σ : SV} {i : Nat} : ∀ {vs : List Nat}, i ∈ vs → (wipe σ vs)[i]? = if i < σ.length then some none else none
  | v :: vs, h => by
    unfold wipe
    by_cases e : v = i
    · subst e
      by_cases hl : v < σ.length
      · rw [List.getElem?_set_self (by rw [wipe_length]; exact hl), if_pos hl]
      · rw [if_neg hl, List.getElem?_eq_none (by rw [List.length_set, wipe_length]; omega)]
    · rw [List.getElem?_set_ne e]
      exact wipe_in ((List.mem_cons.mp h).resolve_left fun z => e z.symm)
theorem EnvRep.wipe {H : Hp} {μ : List Addr} {σ : SV} {ρ : LEnv} (E : EnvRep G H μ σ ρ) (vs : List Nat) : EnvRep G H μ (L2.wipe σ vs) (wipeE ρ vs) := by
  refine ⟨by rw [wipe_length, wipeE_length, E.len], fun i d h => ?_⟩
  obtain ⟨h1, h2⟩ := wipeE_get h
  obtain ⟨v, e, r⟩ := E.at' i d h1
  exact ⟨v, by rw [wipe_get h2]; exact e, r⟩
theorem OnlyAt.wipe {is vs : List Nat} {σ σ' : SV} (o : OnlyAt is σ σ') (h : ∀ i ∈ is, i ∈ vs) : L2.wipe σ' vs = L2.wipe σ vs := by
  refine List.ext_getElem? fun i => ?_
  by_cases hi : i ∈ vs
  · rw [wipe_in hi, wipe_in hi, o.1]
  · rw [wipe_get hi, wipe_get hi]
    exact o.2 i fun z => hi (h i z)
theorem wipe_wipe {σ : SV} {vs : List Nat} : L2.wipe (L2.wipe σ vs) vs = L2.wipe σ vs := by
  refine List.ext_getElem? fun i => ?_
  by_cases hi : i ∈ vs
  · rw [wipe_in hi, wipe_in hi, wipe_length]
  · rw [wipe_get hi]
theorem runE {σ : SV} {H : Hp} {μ : List Addr} {ρ : LEnv} {η η1 : RH} {ma : EM} {d : D} {Q1 : VK} (E : EnvRep G H μ σ ρ) (HR : HeapRep G H μ η) (e : ma ρ η = .ok d η1)
    (h : ∀ v H1 μ1, EnvRep G H1 μ1 σ ρ → HeapRep G H1 μ1 η1 → RepD G H1 μ1 v d → Tr H μ H1 μ1 → Q1 v H1) : tM G W ma σ H Q1 := by
  refine ⟨ρ, η, μ, E, HR, ?_⟩
  rw [e]
  exact fun v H1 μ1 t r hr => h v H1 μ1 (E.mono t) hr r t
theorem runT {σ : SV} {H : Hp} {μ : List Addr} {ρ : LEnv} {η η1 : RH} {ma : TM} {d : Bool} {Q1 : Bool → Hp → Prop} (E : EnvRep G H μ σ ρ) (HR : HeapRep G H μ η) (e : ma ρ η = .ok d η1)
    (h : ∀ H1 μ1, EnvRep G H1 μ1 σ ρ → HeapRep G H1 μ1 η1 → Tr H μ H1 μ1 → Q1 d H1) : tMT G W ma σ H Q1 := by
  refine ⟨ρ, η, μ, E, HR, ?_⟩
  rw [e]
  intro v H1 μ1 t r hr
  cases r
  exact h H1 μ1 (E.mono t) hr t
theorem bindI {α β : Type} {R : Hp → List Addr → β → α → Prop} {σ : SV} {H : Hp} {μ : List Addr} {ρ : LEnv} {η : RH} {Q : β → Hp → Prop} {R1 : It → Hp → Prop} {ma : IM} {kk : List P → RH → Res α} (E : EnvRep G H μ σ ρ) (HR : HeapRep G H μ η) (h : Fin R G W σ Q H μ ((ma ρ η).bind kk))
    (hk : ∀ J H1 μ1 xs η1, EnvRep G H1 μ1 σ ρ → HeapRep G H1 μ1 η1 → ItR G J H1 xs → Tr H μ H1 μ1 → Fin R G W σ Q H1 μ1 (kk xs η1) → R1 J H1) : tMI G W ma σ H R1 := by
  refine ⟨ρ, η, μ, E, HR, ?_⟩
  generalize ma ρ η = r at h ⊢
  cases r with
  | ok d η1 => exact fun v H1 μ1 t r hr => hk v H1 μ1 d η1 (E.mono t) hr r t (Fin.mono (show Fin R G W σ Q H μ (kk d η1) from h) t)
  | ex c xs η1 => exact h
  | bad => exact h
theorem Tr.step {H1 H2 H3 : Hp} {μ1 μ2 μ3 : List Addr} {D : Addr} {o : HO} (t : Tr H1 μ1 H2 μ2) (n : H1 D = none) : Tr H1 μ1 (upd H2 D o) μ2 := by
  refine ⟨fun b u h i => ?_, fun b u h m => ?_, fun b u h => ?_, t.pre⟩
  · rw [upd_ne (ne_of_none h n)]; exact t.imm b u h i
  · rw [upd_ne (ne_of_none h n)]; exact t.fr b u h m
  · obtain ⟨u', e⟩ := t.tk b u h
    exact ⟨u', by rw [upd_ne (ne_of_none h n)]; exact e⟩
theorem Imm.upd {H : Hp} {D : Addr} {o u : HO} (h : H D = some u) (i : immO u = false) : Imm H (L2.upd H D o) := fun b v e iv => by
  have : b ≠ D := fun z => by subst z; rw [h] at e; cases e; rw [i] at iv; cases iv
  rw [upd_ne this]; exact e
theorem HeapRep.upd {H : Hp} {μ : List Addr} {η : RH} {D : Addr} {o u : HO} (hr : HeapRep G H μ η) (h : H D = some u) (i : immO u = false) (n : D ∉ μ) : HeapRep G (L2.upd H D o) μ η := by
  have im := Imm.upd (o := o) h i
  refine ⟨hr.len, hr.nd, fun j a ob e1 e2 => ?_⟩
  have q := hr.ob j a ob e1 e2
  have ha : a ≠ D := fun z => n (z ▸ List.mem_of_getElem? e1)
  have rd : ∀ {v : V} {d : ML.D}, RepD G H μ v d → RepD G (L2.upd H D o) μ v d := fun {v d} r => by
    cases d with
    | p x => exact Rep.mono im x r
    | ref m => exact r
    | xv c xs => exact ⟨r.choose, r.choose_spec.1, r.choose_spec.2.1, r.choose_spec.2.2.1, r.choose_spec.2.2.2.mono im⟩
  have rds : ∀ {vs : List V} {ds : List ML.D}, RepDs G H μ vs ds → RepDs G (L2.upd H D o) μ vs ds := fun {vs} => by
    induction vs with
    | nil => intro ds r; cases ds with
      | nil => trivial
      | cons _ _ => exact r.elim
    | cons v vs ih => intro ds r; cases ds with
      | nil => exact r.elim
      | cons d ds => exact ⟨rd r.1, ih r.2⟩
  cases ob with
  | ls xs => obtain ⟨vs, h1, r⟩ := q; exact ⟨vs, by rw [upd_ne ha]; exact h1, RepL.mono im _ r⟩
  | lr ns => obtain ⟨as, h1, r⟩ := q; exact ⟨as, by rw [upd_ne ha]; exact h1, r⟩
  | dc kvs => obtain ⟨ks, h1, e, r⟩ := q; exact ⟨ks, by rw [upd_ne ha]; exact h1, e, RepL.mono im _ r⟩
  | dt kvs => obtain ⟨ks, h1, e, rk, r⟩ := q; exact ⟨ks, by rw [upd_ne ha]; exact h1, e, RepL.mono im _ rk, RepL.mono im _ r⟩
  | fz kvs => obtain ⟨ob, ks, h1, e, r⟩ := q; exact ⟨ob, ks, by rw [upd_ne ha]; exact h1, e, RepL.mono im _ r⟩
  | fn kvs => obtain ⟨ob, ks, h1, e, rk, r⟩ := q; exact ⟨ob, ks, by rw [upd_ne ha]; exact h1, e, RepL.mono im _ rk, RepL.mono im _ r⟩
  | gone => obtain ⟨x, h1⟩ := q; exact ⟨x, by rw [upd_ne ha]; exact h1⟩
  | ins c fs => obtain ⟨dx, gs, h1, e, r⟩ := q; exact ⟨dx, gs, by rw [upd_ne ha]; exact h1, e, rds r⟩
  | tp ds => obtain ⟨vs, h1, r⟩ := q; exact ⟨vs, by rw [upd_ne ha]; exact h1, rds r⟩
theorem EnvRep.upd {H : Hp} {μ : List Addr} {σ : SV} {ρ : LEnv} {D : Addr} {o u : HO} (E : EnvRep G H μ σ ρ) (h : H D = some u) (i : immO u = false) : EnvRep G (L2.upd H D o) μ σ ρ := by
  refine ⟨E.len, fun j d e => ?_⟩
  obtain ⟨v, h1, r⟩ := E.at' j d e
  refine ⟨v, h1, ?_⟩
  cases d with
  | p x => exact Rep.mono (Imm.upd h i) x r
  | ref m => exact r
  | xv c xs => exact ⟨r.choose, r.choose_spec.1, r.choose_spec.2.1, r.choose_spec.2.2.1, r.choose_spec.2.2.2.mono (Imm.upd h i)⟩
theorem compL_gen {σ : SV} {H1 : Hp} {μ1 : List Addr} {ρ : LEnv} {η1 ηe : RH} {J : It} {D : Addr} {t : Tg} {tt : TM} {te : EM} {vs : List Nat} {xs ys : List P} {Qd : Hp → Prop} (E1 : EnvRep G H1 μ1 σ ρ) (HR1 : HeapRep G H1 μ1 η1) (it : ItR G J H1 xs) (hD : H1 D = none)
    (hl : xs.length ≤ sizeLine) (hv : ∀ i ∈ slots t, i ∈ vs) (h : compL t tt te (wipeE ρ vs) xs η1 = .ok ys ηe)
    (hq : ∀ H2 μ2 acc, Tr H1 μ1 H2 μ2 → HeapRep G H2 μ2 ηe → H2 D = some (.lst acc) → D ∉ μ2 → RepL G H2 acc ys → Qd H2) :
    ∃ Wv : Nat → Nat → Hp → Prop, (∃ m, Wv 0 m (L2.upd H1 D (.lst []))) ∧ ∀ i m H, Wv i m H →
      (J.stop i H ∧ Qd H) ∨ (J.go i H ∧ ∃ Nx : Hp → Prop, (∀ H', Nx H' → ∃ m', m' < m ∧ Wv (i + 1) m' H') ∧ ∀ x H', J.yld i H x H' → gM G t x (L2.wipe σ vs) H' fun σ2 H2 => L2.wipe σ2 vs = L2.wipe σ vs ∧ tMT G W0 tt σ2 H2 fun b H3 =>
        if b = true then tM G W0 te σ2 H3 fun y H4 => ∃ acc, H4 D = some (.lst acc) ∧ acc.length < sizeLine ∧ Nx (L2.upd H4 D (.lst (acc ++ [y]))) else Nx H3) := by
  obtain ⟨Gs, Y, wk, hg, hy⟩ := it
  have D1 : D ∉ μ1 := fun hm => by
    obtain ⟨o, e⟩ := HR1.tk D hm
    rw [hD] at e; cases e
  refine lc_it (σ := σ) (g := gM G t) (tt := tMT G W0 tt) (te := tM G W0 te) (vs := vs) wk (fun i H2 => ∃ μ2 η2 acc accP rest, Tr H1 μ1 H2 μ2 ∧ HeapRep G H2 μ2 η2 ∧ H2 D = some (.lst acc) ∧ D ∉ μ2 ∧ RepL G H2 acc accP ∧ accP.length ≤ i ∧
    compL t tt te (wipeE ρ vs) (xs.drop i) η2 = .ok rest ηe ∧ accP ++ rest = ys) ?_ ?_ ?_ ?_
  · exact ⟨μ1, η1, [], [], ys, Tr.up hD, HR1.same (Same.up hD), upd_same, D1, RepL.nil, Nat.le_refl _, by simpa using h, rfl⟩
  · rintro i H2 hi ⟨μ2, η2, acc, accP, rest, t2, _⟩
    exact hg _ t2.imm
  · rintro i x H2 H3 hi ⟨μ2, η2, acc, accP, rest, t2, HR2, hD2, nD2, racc, hacc, h2, hys⟩ y
    obtain ⟨s3, p, hp, rp⟩ := hy i H2 x H3 hi t2.imm y
    rw [List.drop_eq_getElem_cons hi] at h2
    have hpe : xs[i] = p := by rw [List.getElem?_eq_getElem hi] at hp; exact Option.some.inj hp
    rw [hpe] at h2
    unfold compL at h2
    cases et : tgS t (.p p) (wipeE ρ vs) with
    | none => simp only [et] at h2; cases h2
    | some ρ1 =>
      simp only [et] at h2
      have T3 : Tr H1 μ1 H3 μ2 := t2.trans (Tr.same s3)
      have E3 : EnvRep G H3 μ2 (L2.wipe σ vs) (wipeE ρ vs) := (E1.mono T3).wipe vs
      refine ⟨wipeE ρ vs, μ2, .p p, ρ1, E3, rp, et, fun σ4 E4 o4 => ⟨?_, ?_⟩⟩
      · exact (o4.wipe hv).trans wipe_wipe
      cases e1 : tt ρ1 η2 with
      | bad => rw [e1] at h2; cases h2
      | ex _ _ _ => rw [e1] at h2; cases h2
      | ok b η3 =>
        rw [e1, Res.bind_ok] at h2
        refine runT E4 (HR2.same s3) e1 fun H4 μ4 E5 HR4 t4 => ?_
        have T4 : Tr H1 μ1 H4 μ4 := T3.trans t4
        have hD4 : H4 D = some (.lst acc) := t4.fr D _ (s3 D _ hD2) nD2
        have nD4 : D ∉ μ4 := by
          obtain ⟨l, e, f⟩ := t4.pre
          rw [e]
          intro hm
          rcases List.mem_append.mp hm with hm | hm
          · exact nD2 hm
          · have := f D hm; rw [s3 D _ hD2] at this; cases this
        cases b with
        | false =>
          refine (if_neg Bool.false_ne_true).mpr ?_
          refine ⟨μ4, η3, acc, accP, rest, T4, HR4, hD4, nD4, RepL.mono ((Same.imm s3).trans t4.imm) _ racc, Nat.le_succ_of_le hacc, ?_, hys⟩
          simpa using h2
        | true =>
          refine (if_pos rfl).mpr ?_
          simp only [if_true] at h2
          cases e2 : te ρ1 η3 with
          | bad => rw [e2] at h2; cases h2
          | ex _ _ _ => rw [e2] at h2; cases h2
          | ok d η4 =>
            rw [e2, Res.bind_ok] at h2
            cases d with
            | ref n => cases h2
            | xv c xs => cases h2
            | p yv =>
              refine runE E5 HR4 e2 fun v H5 μ5 E6 HR5 r5 t5 => ?_
              have T5 : Tr H1 μ1 H5 μ5 := T4.trans t5
              have hD5 : H5 D = some (.lst acc) := t5.fr D _ hD4 nD4
              have nD5 : D ∉ μ5 := by
                obtain ⟨l, e, f⟩ := t5.pre
                rw [e]
                intro hm
                rcases List.mem_append.mp hm with hm | hm
                · exact nD4 hm
                · have := f D hm; rw [hD4] at this; cases this
              have racc5 := RepL.mono (((Same.imm s3).trans t4.imm).trans t5.imm) _ racc
              simp only [asP] at h2
              cases e3 : compL t tt te (wipeE ρ vs) (List.drop (i + 1) xs) η4 with
              | bad => rw [e3] at h2; cases h2
              | ex _ _ _ => rw [e3] at h2; cases h2
              | ok rs η5 =>
                rw [e3] at h2
                have h2 : (Res.ok (yv :: rs) η5 : Res (List P)) = .ok rest ηe := h2
                cases h2
                exact ⟨acc, hD5, by rw [racc.length]; omega, μ5, η4, acc ++ [v], accP ++ [yv], rs, T5.step (H3 := H5) (μ3 := μ5) hD, HR5.upd hD5 rfl nD5, upd_same, nD5, RepL.mono (Imm.upd hD5 rfl) _ (racc5.append (RepL.one r5)), by simp; omega, e3, by rw [List.append_assoc]; exact hys⟩
  · rintro H2 ⟨μ2, η2, acc, accP, rest, t2, HR2, hD2, nD2, racc, hacc, h2, hys⟩
    rw [List.drop_length] at h2
    have h2 : (Res.ok [] η2 : Res (List P)) = .ok rest ηe := h2
    cases h2
    rw [List.append_nil] at hys
    subst hys
    exact hq H2 μ2 acc t2 HR2 hD2 nD2 racc
theorem nox_bind {α β : Type} {r : Res α} {f : α → RH → Res β} {R : Hp → List Addr → γ → β → Prop} {σ : SV} {Q : γ → Hp → Prop} {H : Hp} {μ : List Addr} (h : Fin R G W σ Q H μ ((nox r).bind f)) : ∃ a η, r = .ok a η ∧ Fin R G W σ Q H μ (f a η) := by
  cases r with
  | ok a η => exact ⟨a, η, rfl, h⟩
  | ex _ _ _ => exact h.elim
  | bad => exact h.elim
theorem comp_read {σ : SV} {H : Hp} {Q : VK} {im : IM} {t : Tg} {tt : TM} {te : EM} {vs : List Nat} (hv : ∀ i ∈ slots t, i ∈ vs) (h : tM G W (compM im t tt te vs) σ H Q) :
    tLc (tMI G W im) (gM G t) (tMT G W0 tt) (tM G W0 te) vs σ H (fun v H1 => ∃ p xs, v = .ref p ∧ H1 p = some (.lst xs) ∧ ∀ o, Q v (L2.upd H1 p (.frz o (.lst xs)))) := by
  obtain ⟨ρ, η, μ, E, HR, h⟩ := h
  refine bindI E HR h fun J H1 μ1 xs η1 E1 HR1 it t1 h1 => ?_
  split at h1
  · rename_i hl
    intro D hD
    obtain ⟨ys, ηe, er, h1⟩ := nox_bind h1
    refine compL_gen E1 HR1 it hD hl hv er fun H2 μ2 acc t2 HR2 hD2 nD2 racc => ⟨D, acc, rfl, hD2, fun o => ?_⟩
    exact (show FinE G W σ Q H1 μ1 (.ok (.p (.fl ys)) ηe) from h1) _ _ μ2 (t2.step (H3 := H2) (μ3 := μ2) hD) (Rep.fl (.inl ⟨o, upd_same⟩) (RepL.mono (Imm.upd hD2 rfl) _ racc)) (HR2.upd hD2 rfl nD2)
  · exact h1.elim
def compO (im : IM) (t : Tg) (tt : TM) (te : EM) (vs : List Nat) : EM := fun ρ η => (im ρ η).bind fun xs η => if xs.length ≤ sizeLine then (nox (compL t tt te (wipeE ρ vs) xs η)).bind fun ys η => newO (.ls ys) η else .bad
theorem HeapRep.adopt {H : Hp} {μ : List Addr} {η : RH} {p : Addr} {o : Ob} (h : HeapRep G H μ η) (n : p ∉ μ) (r : RepO G H (μ ++ [p]) p o) (mo : ∀ a o, RepO G H μ a o → RepO G H (μ ++ [p]) a o) : HeapRep G H (μ ++ [p]) (η ++ [o]) := by
  refine ⟨by simp [h.len], List.nodup_append.mpr ⟨h.nd, by simp, fun a ha b hb => ?_⟩, fun i a o' e1 e2 => ?_⟩
  · simp at hb; subst hb; intro e; subst e; exact n ha
  · by_cases hi : i < μ.length
    · rw [List.getElem?_append_left hi] at e1
      rw [List.getElem?_append_left (by rw [← h.len]; exact hi)] at e2
      exact mo a o' (h.ob i a o' e1 e2)
    · have hl : i = μ.length := by
        have := (List.getElem?_eq_some_iff.mp e1).1
        simp at this; omega
      subst hl
      rw [List.getElem?_append_right (Nat.le_refl _)] at e1
      rw [h.len, List.getElem?_append_right (Nat.le_refl _)] at e2
      simp at e1 e2
      subst e1 e2
      exact r
theorem RepDs.grow {H : Hp} {μ : List Addr} {p : Addr} : ∀ {vs : List V} {ds : List D}, RepDs G H μ vs ds → RepDs G H (μ ++ [p]) vs ds
  | [], [], _ => trivial
  | v :: vs, .p x :: ds, h => ⟨h.1, RepDs.grow h.2⟩
  | v :: vs, .ref n :: ds, ⟨⟨a, e, q⟩, h⟩ => ⟨⟨a, by rw [List.getElem?_append_left (List.getElem?_eq_some_iff.mp e).1]; exact e, q⟩, RepDs.grow h⟩
  | v :: vs, .xv c xs :: ds, ⟨r, h⟩ => ⟨r, RepDs.grow h⟩
  | [], _ :: _, h => h.elim
  | _ :: _, [], h => h.elim
theorem RepO.grow {H : Hp} {μ : List Addr} {p a : Addr} : ∀ {o : Ob}, RepO G H μ a o → RepO G H (μ ++ [p]) a o
  | .ls xs, h => h
  | .lr ns, ⟨as, h, r⟩ => ⟨as, h, by
    have hl : as.length = ns.length := by simpa using congrArg List.length r
    refine List.ext_getElem? fun i => ?_
    have e := congrArg (fun l => l[i]?) r
    simp only [List.getElem?_map] at e ⊢
    cases h1 : as[i]? with
    | none =>
      rw [h1] at e
      cases h2 : ns[i]? with
      | none => rfl
      | some n => rw [h2] at e; cases e
    | some b =>
      rw [h1] at e
      cases h2 : ns[i]? with
      | none => rw [h2] at e; cases e
      | some n =>
        rw [h2] at e
        simp only [Option.map_some, Option.some.injEq] at e ⊢
        rw [List.getElem?_append_left (List.getElem?_eq_some_iff.mp e.symm).1]
        exact e⟩
  | .dc kvs, h => h
  | .dt kvs, h => h
  | .fz kvs, h => h
  | .fn kvs, h => h
  | .gone, h => h
  | .ins c fs, ⟨dx, gs, h, e, r⟩ => ⟨dx, gs, h, e, r.grow⟩
  | .tp ds, ⟨vs, h, r⟩ => ⟨vs, h, r.grow⟩
theorem adopt_fin {σ : SV} {H1 H2 : Hp} {μ1 μ2 : List Addr} {η : RH} {Q : VK} {D : Addr} {o : Ob} (t2 : Tr H1 μ1 H2 μ2) (HR2 : HeapRep G H2 μ2 η) (n1 : H1 D = none) (nD : D ∉ μ2) (r : RepO G H2 (μ2 ++ [D]) D o) (h : FinE G W σ Q H1 μ1 (newO o η)) : Q (.ref D) H2 := by
  have T : Tr H1 μ1 H2 (μ2 ++ [D]) := by
    obtain ⟨l, e, f⟩ := t2.pre
    refine ⟨t2.imm, t2.fr, t2.tk, l ++ [D], by rw [e, List.append_assoc], fun a ha => ?_⟩
    rcases List.mem_append.mp ha with ha | ha
    · exact f a ha
    · simp at ha; subst ha; exact n1
  refine (show FinE G W σ Q H1 μ1 (.ok (.ref η.length) (η ++ [o])) from h) _ _ _ T ⟨D, ?_, rfl⟩ (HR2.adopt nD r fun a o q => q.grow)
  rw [← HR2.len]; simp
theorem compO_read {σ : SV} {H : Hp} {Q : VK} {im : IM} {t : Tg} {tt : TM} {te : EM} {vs : List Nat} (hv : ∀ i ∈ slots t, i ∈ vs) (h : tM G W (compO im t tt te vs) σ H Q) :
    tLc (tMI G W im) (gM G t) (tMT G W0 tt) (tM G W0 te) vs σ H Q := by
  obtain ⟨ρ, η, μ, E, HR, h⟩ := h
  refine bindI E HR h fun J H1 μ1 xs η1 E1 HR1 it t1 h1 => ?_
  split at h1
  · rename_i hl
    intro D hD
    obtain ⟨ys, ηe, er, h1⟩ := nox_bind h1
    exact compL_gen E1 HR1 it hD hl hv er fun H2 μ2 acc t2 HR2 hD2 nD2 racc => adopt_fin (o := .ls ys) t2 HR2 hD nD2 ⟨acc, hD2, racc⟩ h1
  · exact h1.elim
theorem pts_nil' : PTs X [] (tMT G W yesT) := ⟨fun pins s σ H Q I h => by
  obtain ⟨ρ, η, μ, E, HR, h⟩ := h
  exact pts_nil.run pins s σ H Q I ((show FinT G W σ Q H μ (.ok true η) from h) _ H μ Tr.refl rfl HR)⟩
theorem pts_one' {c : Expr} {t : TM} (h : DT X G W c t) : PTs X [c] (tMT G W t) := pts_one h
variable {im : IM} {t : Tg} {tt : TM} {te : EM} {elt tg iter : Expr} {ifs : List Expr} {scope : Scope} {own : List (Str × Nat)} {pos : Pos}
theorem de_comp (c : Ctx X G W k) (hi : PI X tg iter (tMI G W im)) (ok : BlkOk X.N X.env.scope scope own) (hv : ∀ i ∈ slots t, i ∈ own.map (·.2))
    (hg : ∀ (s : Shared) (H : Hp) (C : Addr) (cl : List (Str × Addr)) (fp : List Addr), DG (X.blk s H scope (compEnvC scope cl C X.env) fp) G tg t) (ht : ∀ (s : Shared) (H : Hp) (C : Addr) (cl : List (Str × Addr)) (fp : List Addr), PTs (X.blk s H scope (compEnvC scope cl C X.env) fp) ifs (tMT G W0 tt))
    (he : ∀ (s : Shared) (H : Hp) (C : Addr) (cl : List (Str × Addr)) (fp : List Addr), DE (X.blk s H scope (compEnvC scope cl C X.env) fp) G W0 elt te) (hs : ∀ x, foldedSetIterable iter X.env x = pure x := by intro _; rfl) :
    DE X G W (.ListComp elt [⟨tg, iter, ifs, 0⟩] scope pos) (compM im t tt te (own.map (·.2))) :=
  iE (pe_frz (pe_lc c.hc c.hN hi ok hg ht he hs)) fun σ H Q h => comp_read hv h
end
end ML
set_option Elab.async false
set_option linter.all false
set_option maxRecDepth 100000
set_option maxHeartbeats 1000000
namespace ML
open PySem PySem.Spec PyProof.Rows L2
inductive SRes where
  | nx (ρ : LEnv) (η : RH)
  | rt (d : D) (η : RH)
  | bk (ρ : LEnv) (η : RH)
  | ct (ρ : LEnv) (η : RH)
  | ex (c : Nat) (xs : List P) (ρ : LEnv) (η : RH)
  | bad
abbrev SM := LEnv → RH → SRes
def FinS (G : Gd) (W : WX) (D : Ends) (H : Hp) (μ : List Addr) : SRes → Prop
  | .nx ρ η => ∀ σ' H' μ', Tr H μ H' μ' → EnvRep G H' μ' σ' ρ → HeapRep G H' μ' η → D.nx σ' H'
  | .rt d η => ∀ v H' μ', Tr H μ H' μ' → RepD G H' μ' v d → HeapRep G H' μ' η → D.rt v H'
  | .bk ρ η => ∀ σ' H' μ', Tr H μ H' μ' → EnvRep G H' μ' σ' ρ → HeapRep G H' μ' η → D.bk σ' H'
  | .ct ρ η => ∀ σ' H' μ', Tr H μ H' μ' → EnvRep G H' μ' σ' ρ → HeapRep G H' μ' η → D.ct σ' H'
  | .ex c xs ρ η => ∀ d σ' H' μ', Tr H μ H' μ' → EnvRep G H' μ' σ' ρ → ExR G H' d c xs → HeapRep G H' μ' η → W (.ref (G.cls c)) (some d) σ' H'
  | .bad => False
def tSM (G : Gd) (W : WX) (m : SM) : TS := fun D σ H => ∃ ρ η μ, EnvRep G H μ σ ρ ∧ HeapRep G H μ η ∧ FinS G W D H μ (m ρ η)
abbrev DS (X : Cx) (G : Gd) (W : WX) (st : Stmt) (m : SM) : Prop := PS X st (tSM G W m)
abbrev DSs (X : Cx) (G : Gd) (W : WX) (st : List Stmt) (m : SM) : Prop := PSs X st (tSM G W m)
section
variable {X : Cx} {G : Gd} {W : WX} {k : Nat} {st : Stmt} {sts : List Stmt} {s1 s2 : SM} {e : Expr} {m : EM} {pos : Pos}
theorem FinS.mono {D : Ends} {H H1 : Hp} {μ μ1 : List Addr} {r : SRes} (h : FinS G W D H μ r) (t : Tr H μ H1 μ1) : FinS G W D H1 μ1 r := by
  cases r with
  | nx ρ η => exact fun σ' H' μ' t' => h σ' H' μ' (t.trans t')
  | rt d η => exact fun v H' μ' t' => h v H' μ' (t.trans t')
  | bk ρ η => exact fun σ' H' μ' t' => h σ' H' μ' (t.trans t')
  | ct ρ η => exact fun σ' H' μ' t' => h σ' H' μ' (t.trans t')
  | ex c xs ρ η => exact fun d σ' H' μ' t' => h d σ' H' μ' (t.trans t')
  | bad => exact h
def ResS (r : Res D) (ρ : LEnv) (f : D → RH → SRes) : SRes := match r with
  | .ok d η => f d η
  | .ex c xs η => .ex c xs ρ η
  | .bad => .bad
def ResB (r : Res Bool) (ρ : LEnv) (f : Bool → RH → SRes) : SRes := match r with
  | .ok d η => f d η
  | .ex c xs η => .ex c xs ρ η
  | .bad => .bad
def ResI (r : Res (List P)) (ρ : LEnv) (f : List P → RH → SRes) : SRes := match r with
  | .ok d η => f d η
  | .ex c xs η => .ex c xs ρ η
  | .bad => .bad
theorem ResS_bind {r : Res D} {ρ : LEnv} {kk : D → RH → Res D} {f : D → RH → SRes} : ResS (r.bind kk) ρ f = ResS r ρ fun d η => ResS (kk d η) ρ f := by cases r <;> rfl
theorem bindSE {σ : SV} {H : Hp} {μ : List Addr} {ρ : LEnv} {η : RH} {D : Ends} {Q1 : VK} {ma : EM} {f : ML.D → RH → SRes} (E : EnvRep G H μ σ ρ) (HR : HeapRep G H μ η) (h : FinS G W D H μ (ResS (ma ρ η) ρ f))
    (hk : ∀ v H1 μ1 d η1, EnvRep G H1 μ1 σ ρ → HeapRep G H1 μ1 η1 → RepD G H1 μ1 v d → Tr H μ H1 μ1 → FinS G W D H1 μ1 (f d η1) → Q1 v H1) : tM G W ma σ H Q1 := by
  refine ⟨ρ, η, μ, E, HR, ?_⟩
  generalize ma ρ η = r at h ⊢
  cases r with
  | ok d η1 => exact fun v H1 μ1 t r hr => hk v H1 μ1 d η1 (E.mono t) hr r t (FinS.mono (show FinS G W D H μ (f d η1) from h) t)
  | ex c xs η1 => exact fun d H' μ' t x hr => (show FinS G W D H μ (.ex c xs ρ η1) from h) d σ H' μ' t (E.mono t) x hr
  | bad => exact h
theorem bindST {σ : SV} {H : Hp} {μ : List Addr} {ρ : LEnv} {η : RH} {D : Ends} {Q1 : Bool → Hp → Prop} {ma : TM} {f : Bool → RH → SRes} (E : EnvRep G H μ σ ρ) (HR : HeapRep G H μ η) (h : FinS G W D H μ (ResB (ma ρ η) ρ f))
    (hk : ∀ b H1 μ1 η1, EnvRep G H1 μ1 σ ρ → HeapRep G H1 μ1 η1 → Tr H μ H1 μ1 → FinS G W D H1 μ1 (f b η1) → Q1 b H1) : tMT G W ma σ H Q1 := by
  refine ⟨ρ, η, μ, E, HR, ?_⟩
  generalize ma ρ η = r at h ⊢
  cases r with
  | ok d η1 =>
    intro v H1 μ1 t r hr
    cases r
    exact hk _ H1 μ1 η1 (E.mono t) hr t (FinS.mono (show FinS G W D H μ (f _ η1) from h) t)
  | ex c xs η1 => exact fun d H' μ' t x hr => (show FinS G W D H μ (.ex c xs ρ η1) from h) d σ H' μ' t (E.mono t) x hr
  | bad => exact h
theorem bindSI {σ : SV} {H : Hp} {μ : List Addr} {ρ : LEnv} {η : RH} {D : Ends} {Q1 : It → Hp → Prop} {ma : IM} {f : List P → RH → SRes} (E : EnvRep G H μ σ ρ) (HR : HeapRep G H μ η) (h : FinS G W D H μ (ResI (ma ρ η) ρ f))
    (hk : ∀ J H1 μ1 xs η1, EnvRep G H1 μ1 σ ρ → HeapRep G H1 μ1 η1 → ItR G J H1 xs → Tr H μ H1 μ1 → FinS G W D H1 μ1 (f xs η1) → Q1 J H1) : tMI G W ma σ H Q1 := by
  refine ⟨ρ, η, μ, E, HR, ?_⟩
  generalize ma ρ η = r at h ⊢
  cases r with
  | ok d η1 => exact fun v H1 μ1 t r hr => hk v H1 μ1 d η1 (E.mono t) hr r t (FinS.mono (show FinS G W D H μ (f d η1) from h) t)
  | ex c xs η1 => exact fun d H' μ' t x hr => (show FinS G W D H μ (.ex c xs ρ η1) from h) d σ H' μ' t (E.mono t) x hr
  | bad => exact h
def seqS (s1 s2 : SM) : SM := fun ρ η => match s1 ρ η with
  | .nx ρ η => s2 ρ η
  | r => r
def passS : SM := fun ρ η => .nx ρ η
def cntS : SM := fun ρ η => .ct ρ η
theorem dss_cons (h1 : DS X G W st s1) (h2 : DSs X G W sts s2) : DSs X G W (st :: sts) (seqS s1 s2) := iSs (pss_cons h1 h2) fun D σ H h => by
  obtain ⟨ρ, η, μ, E, HR, h⟩ := h
  refine ⟨ρ, η, μ, E, HR, ?_⟩
  unfold seqS at h
  cases hr : s1 ρ η with
  | nx ρ1 η1 =>
    rw [hr] at h
    exact fun σ' H' μ' t E' HR' => ⟨ρ1, η1, μ', E', HR', FinS.mono (show FinS G W D H μ (s2 ρ1 η1) from h) t⟩
  | rt d η1 => rw [hr] at h; exact h
  | bk ρ1 η1 => rw [hr] at h; exact h
  | ct ρ1 η1 => rw [hr] at h; exact h
  | ex c xs ρ1 η1 => rw [hr] at h; exact h
  | bad => rw [hr] at h; exact h
theorem dss_nil : DSs X G W [] passS := iSs pss_nil fun D σ H h => by
  obtain ⟨ρ, η, μ, E, HR, h⟩ := h
  exact h σ H μ Tr.refl E HR
theorem dss_one (h1 : DS X G W st s1) : DSs X G W [st] s1 := pss_one h1
theorem ds_cnt : DS X G W (.Continue pos) cntS := iS ps_continue fun D σ H h => by
  obtain ⟨ρ, η, μ, E, HR, h⟩ := h
  exact h σ H μ Tr.refl E HR
def retS (m : EM) : SM := fun ρ η => ResS (m ρ η) ρ fun d η => .rt d η
def exprS (m : EM) : SM := fun ρ η => ResS (m ρ η) ρ fun _ η => .nx ρ η
def asgS (t : Tg) (m : EM) : SM := fun ρ η => ResS (m ρ η) ρ fun d η => match tgS t d ρ with
  | some ρ1 => .nx ρ1 η
  | none => .bad
def ifS (t : TM) (s1 s2 : SM) : SM := fun ρ η => ResB (t ρ η) ρ fun b η => if b = true then s1 ρ η else s2 ρ η
theorem ds_ret (h : DE X G W e m) : DS X G W (.Return (some e) pos) (retS m) := iS (ps_ret h) fun D σ H h => by
  obtain ⟨ρ, η, μ, E, HR, h⟩ := h
  refine bindSE E HR h fun v H1 μ1 d η1 E1 HR1 r1 t1 h1 => ?_
  exact (show FinS G W D H1 μ1 (.rt d η1) from h1) v H1 μ1 Tr.refl r1 HR1
theorem ds_expr (h : DE X G W e m) (hs : swapsWith e none pos.line X.env = pure false := by rfl) : DS X G W (.Expr e pos) (exprS m) := iS (ps_expr h hs) fun D σ H h => by
  obtain ⟨ρ, η, μ, E, HR, h⟩ := h
  refine bindSE E HR h fun v H1 μ1 d η1 E1 HR1 r1 t1 h1 => ?_
  exact (show FinS G W D H1 μ1 (.nx ρ η1) from h1) σ H1 μ1 Tr.refl E1 HR1
theorem ds_if {c : Expr} {a b : List Stmt} {t : TM} (hc : DT X G W c t) (ha : DSs X G W a s1) (hb : DSs X G W b s2) : DS X G W (.If c a b pos) (ifS t s1 s2) := iS (ps_if hc ha hb) fun D σ H h => by
  obtain ⟨ρ, η, μ, E, HR, h⟩ := h
  refine bindST E HR h fun b H1 μ1 η1 E1 HR1 t1 h1 => ?_
  cases b with
  | true => exact (if_pos rfl).mpr ⟨ρ, η1, μ1, E1, HR1, h1⟩
  | false => exact (if_neg Bool.false_ne_true).mpr ⟨ρ, η1, μ1, E1, HR1, h1⟩
def augS (i : Nat) (g : P → P → Option P) (m : EM) : SM := asgS (.nm i) (op2 g (nameM i) m)
theorem ds_aug {i : Nat} {x : Str} {op : Operator} {r : R2} {g : P → P → Option P} {pos' : Pos} (hN : X.N.Nodup) (ho : OpR X (inplaceOp op) r) (og : Op2 G r g) (he : DE X G W e m) (hi : X.N[i]? = some x := by rfl) (hx : Loc X.env.scope x := by first | exact .inl rfl | exact .inr rfl) (hf : X.fn x = true ∨ X.env.scope.names.lookup x = some .local := by first | exact .inl rfl | exact .inr rfl | assumption) :
    DS X G W (.AugAssign (.Name x pos') op e pos) (augS i g m) := by
  have hp : PIp X op r := fun pins s σ H x y v u Q I rx ry h => ho pins s σ H x y v u Q I rx ry h
  refine iS (ps_aug hN hi hx he hp hf) fun D σ H h => ?_
  obtain ⟨ρ, η, μ, E, HR, h⟩ := h
  unfold augS asgS op2 nameM at h
  cases hρ : ρ[i]? with
  | none => simp only [hρ] at h; exact h.elim
  | some o =>
    cases o with
    | none => simp only [hρ] at h; exact h.elim
    | some d =>
      simp only [hρ, Res.bind_ok, ResS_bind] at h
      obtain ⟨v, h1, h2⟩ := E.at' i d hρ
      refine ⟨v, h1, bindSE E HR h fun u H1 μ1 d2 η1 E1 HR1 r1 t1 q => ?_⟩
      cases ex : view η1 d with
      | none => rw [ex] at q; exact q.elim
      | some x =>
        cases ey : view η1 d2 with
        | none => rw [ex, ey] at q; exact q.elim
        | some y =>
          rw [ex, ey] at q
          simp only [Option.bind_some] at q
          cases eg : g x y with
          | none => rw [eg] at q; exact q.elim
          | some z =>
            rw [eg] at q
            refine og x y z v u H1 _ eg (viewRep HR1 (h2.mono t1) ex) (viewRep HR1 r1 ey) fun w H3 s3 rw3 => ?_
            have q : FinS G W D H1 μ1 (.nx (ρ.set i (some (.p z))) η1) := q
            exact q _ H3 μ1 (Tr.same s3) ((E1.mono (Tr.same s3)).set (show RepD G H3 μ1 w (.p z) from rw3) i) (HR1.same s3)
end
end ML
set_option Elab.async false
set_option linter.all false
set_option maxRecDepth 100000
set_option maxHeartbeats 1000000
namespace ML
open PySem PySem.Spec PyProof.Rows L2
section
variable {X : Cx} {G : Gd} {W : WX} {k : Nat} {st : Stmt} {sts : List Stmt} {s1 s2 : SM} {e : Expr} {m : EM} {pos : Pos}
def setS (i : Nat) (m : EM) : SM := fun ρ η => ResS (m ρ η) ρ fun d η => .nx (ρ.set i (some d)) η
theorem set_read {σ : SV} {H : Hp} {D : Ends} {i : Nat} (h : tSM G W (setS i m) D σ H) : tM G W m σ H fun x H1 => D.nx (σ.set i (some x)) H1 := by
  obtain ⟨ρ, η, μ, E, HR, h⟩ := h
  refine bindSE E HR h fun v H1 μ1 d η1 E1 HR1 r1 t1 h1 => ?_
  exact (show FinS G W D H1 μ1 (.nx (ρ.set i (some d)) η1) from h1) _ H1 μ1 Tr.refl (E1.set r1 i) HR1
theorem ds_set (i : Nat) {x : Str} {pos' : Pos} (hN : X.N.Nodup) (he : DE X G W e m) (hi : X.N[i]? = some x := by rfl) (hx : Loc X.env.scope x := by first | exact .inl rfl | exact .inr rfl) (hs : swapsWith e (some (.Name x pos')) pos.line X.env = pure false := by rfl)
    (hf : X.fn x = true ∨ X.env.scope.names.lookup x = some .local := by first | exact .inl rfl | exact .inr rfl | assumption) : DS X G W (.Assign [.Name x pos'] e pos) (setS i m) :=
  iS (ps_set hN hi hx he hs hf) fun D σ H h => set_read h
theorem ps_frz {t : TS} (h : PS X st t) (i : Nat) : PS X st (fun D σ H => t { D with nx := fun σ' H' => ∃ p xs, σ'[i]? = some (some (.ref p)) ∧ H' p = some (.lst xs) ∧ ∀ o, D.nx σ' (L2.upd H' p (.frz o (.lst xs))) } σ H) := by
  refine ⟨fun pins s σ H D I q => thn (h.run pins s σ H _ I q) fun f s1 q1 => ?_⟩
  cases f with
  | next =>
    obtain ⟨σ', H', I', p, xs, e, hp, q2⟩ := q1
    obtain ⟨od, I2⟩ := I'.lock hp trivial
    exact ⟨σ', _, I2, q2 od⟩
  | ret v => exact q1
  | brk => exact q1
  | cont => exact q1
theorem ds_setComp {im : IM} {t : Tg} {tt : TM} {te : EM} {elt tg iter : Expr} {ifs : List Expr} {scope : Scope} {own : List (Str × Nat)} {spos : Pos} (i : Nat) {y : Str} {py : Pos} (c : Ctx X G W k) (hy : X.N[i]? = some y) (hyl : X.env.scope.names.lookup y = some .local)
    (hsw : swapsWith (.ListComp elt [⟨tg, iter, ifs, 0⟩] scope pos) (some (.Name y py)) spos.line X.env = pure true) (hi : PI X tg iter (tMI G W im)) (ok : BlkOk X.N X.env.scope scope own) (hv : ∀ i ∈ slots t, i ∈ own.map (·.2))
    (hg : ∀ (s : Shared) (H : Hp) (C : Addr) (cl : List (Str × Addr)) (fp : List Addr), DG (X.blk s H scope (compEnvC scope cl C X.env) fp) G tg t) (ht : ∀ (s : Shared) (H : Hp) (C : Addr) (cl : List (Str × Addr)) (fp : List Addr), PTs (X.blk s H scope (compEnvC scope cl C X.env) fp) ifs (tMT G W0 tt))
    (he : ∀ (s : Shared) (H : Hp) (C : Addr) (cl : List (Str × Addr)) (fp : List Addr), DE (X.blk s H scope (compEnvC scope cl C X.env) fp) G W0 elt te) (hs : ∀ x, foldedSetIterable iter X.env x = pure x := by intro _; rfl) :
    DS X G W (.Assign [.Name y py] (.ListComp elt [⟨tg, iter, ifs, 0⟩] scope pos) spos) (setS i (compM im t tt te (own.map (·.2)))) := by
  have hil : i < X.N.length := (List.getElem?_eq_some_iff.mp hy).1
  have base := ps_frz (ps_setLc (i := i) (py := py) (spos := spos) c.hc c.hN hy hyl hsw hi ok hg ht he hs) i
  refine ⟨fun pins s σ H D I h => base.run pins s σ H D I ?_⟩
  have hσ : i < σ.length := by rw [I.len]; exact hil
  have h := comp_read hv (set_read h)
  show tLc _ _ _ _ _ σ H (fun x H1 => ∃ p xs, (σ.set i (some x))[i]? = some (some (.ref p)) ∧ H1 p = some (.lst xs) ∧ ∀ o, D.nx (σ.set i (some x)) (L2.upd H1 p (.frz o (.lst xs))))
  have he : (fun x H1 => ∃ p xs, (σ.set i (some x))[i]? = some (some (.ref p)) ∧ H1 p = some (.lst xs) ∧ ∀ o, D.nx (σ.set i (some x)) (L2.upd H1 p (.frz o (.lst xs)))) = (fun (x : V) H1 => ∃ p xs, x = .ref p ∧ H1 p = some (.lst xs) ∧ ∀ o, D.nx (σ.set i (some x)) (L2.upd H1 p (.frz o (.lst xs)))) := by
    funext x H1
    simp [hσ]
  rw [he]
  exact h
theorem ds_setCompO {im : IM} {t : Tg} {tt : TM} {te : EM} {elt tg iter : Expr} {ifs : List Expr} {scope : Scope} {own : List (Str × Nat)} {spos : Pos} (i : Nat) {y : Str} {py : Pos} (c : Ctx X G W k) (hy : X.N[i]? = some y) (hyl : X.env.scope.names.lookup y = some .local)
    (hsw : swapsWith (.ListComp elt [⟨tg, iter, ifs, 0⟩] scope pos) (some (.Name y py)) spos.line X.env = pure true) (hi : PI X tg iter (tMI G W im)) (ok : BlkOk X.N X.env.scope scope own) (hv : ∀ i ∈ slots t, i ∈ own.map (·.2))
    (hg : ∀ (s : Shared) (H : Hp) (C : Addr) (cl : List (Str × Addr)) (fp : List Addr), DG (X.blk s H scope (compEnvC scope cl C X.env) fp) G tg t) (ht : ∀ (s : Shared) (H : Hp) (C : Addr) (cl : List (Str × Addr)) (fp : List Addr), PTs (X.blk s H scope (compEnvC scope cl C X.env) fp) ifs (tMT G W0 tt))
    (he : ∀ (s : Shared) (H : Hp) (C : Addr) (cl : List (Str × Addr)) (fp : List Addr), DE (X.blk s H scope (compEnvC scope cl C X.env) fp) G W0 elt te) (hs : ∀ x, foldedSetIterable iter X.env x = pure x := by intro _; rfl) :
    DS X G W (.Assign [.Name y py] (.ListComp elt [⟨tg, iter, ifs, 0⟩] scope pos) spos) (setS i (compO im t tt te (own.map (·.2)))) :=
  iS (ps_setLc (i := i) (py := py) (spos := spos) c.hc c.hN hy hyl hsw hi ok hg ht he hs) fun D σ H h => compO_read hv (set_read h)
def forL (t : Tg) (b : SM) : List P → LEnv → RH → SRes
  | [], ρ, η => .nx ρ η
  | x :: xs, ρ, η => match tgS t (.p x) ρ with
    | none => .bad
    | some ρ1 => match b ρ1 η with
      | .nx ρ η => forL t b xs ρ η
      | .ct ρ η => forL t b xs ρ η
      | .bk ρ η => .nx ρ η
      | r => r
def forS (im : IM) (t : Tg) (b : SM) : SM := fun ρ η => ResI (im ρ η) ρ fun xs η => forL t b xs ρ η
theorem ds_for {im : IM} {t : Tg} {b : SM} {tg iter : Expr} {body : List Stmt} (c : Ctx X G W k) (hi : PI X tg iter (tMI G W im)) (hg : DG X G tg t) (hb : DSs X G W body b) (hs : ∀ x, foldedSetIterable iter X.env x = pure x := by intro _; rfl) :
    DS X G W (.For tg iter body [] pos) (forS im t b) := iS (ps_for c.hp c.hc hi hg hb hs) fun D σ H h => by
  obtain ⟨ρ, η, μ, E, HR, h⟩ := h
  refine bindSI E HR h fun J H1 μ1 xs η1 E1 HR1 it t1 h1 => ?_
  obtain ⟨Gs, Y, wk, hgs, hy⟩ := it
  refine for_it (g := gM G t) (tb := tSM G W b) wk (fun i σ2 H2 => ∃ ρ2 η2 μ2, EnvRep G H2 μ2 σ2 ρ2 ∧ HeapRep G H2 μ2 η2 ∧ Tr H1 μ1 H2 μ2 ∧ FinS G W D H1 μ1 (forL t b (xs.drop i) ρ2 η2)) ?_ ?_ ?_ ?_
  · exact ⟨ρ, η1, μ1, E1, HR1, Tr.refl, by simpa using h1⟩
  · rintro i σ2 H2 hi ⟨ρ2, η2, μ2, E2, HR2, t2, _⟩
    exact hgs _ t2.imm
  · rintro i x σ2 H2 H3 hi ⟨ρ2, η2, μ2, E2, HR2, t2, h2⟩ y
    obtain ⟨s3, p, hp, rp⟩ := hy i H2 x H3 hi t2.imm y
    have hpe : xs[i] = p := by rw [List.getElem?_eq_getElem hi] at hp; exact Option.some.inj hp
    rw [List.drop_eq_getElem_cons hi, hpe] at h2
    unfold forL at h2
    cases et : tgS t (.p p) ρ2 with
    | none => simp only [et] at h2; exact h2.elim
    | some ρ3 =>
      simp only [et] at h2
      refine ⟨ρ2, μ2, .p p, ρ3, E2.mono (Tr.same s3), rp, et, fun σ4 E4 o4 => ?_⟩
      refine ⟨ρ3, η2, μ2, E4, HR2.same s3, ?_⟩
      have T3 : Tr H1 μ1 H3 μ2 := t2.trans (Tr.same s3)
      cases er : b ρ3 η2 with
      | nx ρ5 η5 =>
        simp only [er] at h2
        exact fun σ' H' μ' t' E' HR' => ⟨ρ5, η5, μ', E', HR', T3.trans t', h2⟩
      | ct ρ5 η5 =>
        simp only [er] at h2
        exact fun σ' H' μ' t' E' HR' => ⟨ρ5, η5, μ', E', HR', T3.trans t', h2⟩
      | bk ρ5 η5 =>
        simp only [er] at h2
        exact fun σ' H' μ' t' E' HR' => (show FinS G W D H1 μ1 (.nx ρ5 η5) from h2) σ' H' μ' (T3.trans t') E' HR'
      | rt d η5 =>
        simp only [er] at h2
        exact fun v H' μ' t' r' HR' => (show FinS G W D H1 μ1 (.rt d η5) from h2) v H' μ' (T3.trans t') r' HR'
      | ex cc ys ρ5 η5 =>
        simp only [er] at h2
        exact fun d σ' H' μ' t' E' x' HR' => (show FinS G W D H1 μ1 (.ex cc ys ρ5 η5) from h2) d σ' H' μ' (T3.trans t') E' x' HR'
      | bad => simp only [er] at h2; exact h2.elim
  · rintro σ2 H2 ⟨ρ2, η2, μ2, E2, HR2, t2, h2⟩
    rw [List.drop_length] at h2
    exact (show FinS G W D H1 μ1 (.nx ρ2 η2) from h2) σ2 H2 μ2 t2 E2 HR2
end
end ML
set_option Elab.async false
set_option linter.all false
set_option maxRecDepth 100000
set_option maxHeartbeats 1000000
namespace ML
open PySem PySem.Spec PyProof.Rows L2
section
variable {X : Cx} {G : Gd} {W : WX} {k : Nat} {a b e : Expr} {ma mb m : EM} {am : AM} {pos : Pos} {es : List Expr}
theorem atI_rep {H : Hp} {vs : List V} {xs : List P} {i : Int} {x : P} (r : RepL G H vs xs) (h : atI xs i = some x) : ∃ v, atI vs i = some v ∧ Rep G H v x := by
  unfold atI at h ⊢
  rw [r.length]
  cases e : ixN xs.length i with
  | none => rw [e] at h; cases h
  | some j =>
    rw [e, Option.bind_some] at h
    obtain ⟨v, h1, h2⟩ := r.get h
    exact ⟨v, by rw [Option.bind_some]; exact h1, h2⟩
def gIx : P → P → Option P
  | .fl xs, .int i => atI xs i
  | .tup xs, .int i => atI xs i
  | .str z, .int i => if z.length ≤ sizeLine then (atI z.cps.toList i).map fun c => .str ⟨#[c]⟩ else none
  | _, _ => none
theorem o_ix : Op2 G (rIx G.K) gIx := fun x y z v u H Q e rx ry q => by
  cases y <;> first | (cases x <;> cases e; done) | skip
  rename_i i
  have hu := repInt ry
  subst hu
  cases x <;> first | (cases e; done) | skip
  · rename_i s
    simp only [gIx, Option.ite_none_right_eq_some, Option.map_eq_some_iff] at e
    obtain ⟨hl, c, hc, rfl⟩ := e
    exact .inr (.inr ⟨s, i, c, repStr rx, rfl, hl, hc, q _ H (Same.refl H) (Rep.str _)⟩)
  · rename_i xs
    obtain ⟨p, vs, rfl, s, r⟩ := repTup rx
    obtain ⟨w, hw, rw'⟩ := atI_rep r (show atI xs i = some z from e)
    exact .inr (.inl ⟨p, vs, i, w, rfl, rfl, s, hw, q _ H (Same.refl H) rw'⟩)
  · rename_i xs
    obtain ⟨p, vs, rfl, s, r⟩ := rx
    obtain ⟨w, hw, rw'⟩ := atI_rep r (show atI xs i = some z from e)
    exact .inl ⟨p, vs, i, w, rfl, rfl, s, hw, q _ H (Same.refl H) rw'⟩
theorem de_ix (c : Ctx X G W k) (ha : DE X G W a ma) (hb : DE X G W b mb) (hs : PlainIx b := by intro _ _; rfl) : DE X G W (.Subscript a b pos) (op2 gIx ma mb) :=
  iE (pe_ix ix_seq ha hb hs) fun σ H Q h => by
    rw [c.hK]
    exact op2_read o_ix h
def RepVs (G : Gd) (H : Hp) : List V → List P → Prop
  | [], [] => True
  | v :: vs, x :: xs => RepV G H v x ∧ RepVs G H vs xs
  | _, _ => False
def views (η : RH) : List D → Option (List P)
  | [] => some []
  | d :: ds => (view η d).bind fun x => (views η ds).map (x :: ·)
theorem views_rep {H : Hp} {μ : List Addr} {η : RH} (hr : HeapRep G H μ η) : ∀ {vs : List V} {ds : List D} {xs : List P}, RepDs G H μ vs ds → views η ds = some xs → RepVs G H vs xs
  | [], [], xs, _, h => by cases h; trivial
  | v :: vs, d :: ds, xs, r, h => by
    unfold views at h
    cases e1 : view η d with
    | none => rw [e1] at h; cases h
    | some x =>
      rw [e1, Option.bind_some] at h
      cases e2 : views η ds with
      | none => rw [e2] at h; cases h
      | some ys =>
        rw [e2, Option.map_some] at h
        cases h
        exact ⟨viewRep hr r.1 e1, views_rep hr r.2 e2⟩
  | [], _ :: _, _, r, _ => r.elim
  | _ :: _, [], _, r, _ => r.elim
def CallD (G : Gd) (r : List V → Hp → VK → Prop) (g : List P → Option P) : Prop := ∀ xs z vs H Q, g xs = some z → RepVs G H vs xs → (∀ w H', Same H H' → Rep G H' w z → Q w H') → r vs H Q
def opV (g : List P → Option P) (am : AM) : EM := fun ρ η => (am ρ η).bind fun ds η => ofO ((views η ds).bind g) η
theorem opV_read {r : List V → Hp → VK → Prop} {g : List P → Option P} (og : CallD G r g) {σ : SV} {H : Hp} {Q : VK} (h : tM G W (opV g am) σ H Q) : tMA G W am σ H fun vs H1 => r vs H1 Q := by
  obtain ⟨ρ, η, μ, E, HR, h⟩ := h
  refine bindA E HR h fun vs H1 μ1 ds η1 E1 HR1 r1 t1 h1 => ?_
  obtain ⟨z, e, q⟩ := ofO_fin HR1 h1
  cases ex : views η1 ds with
  | none => rw [ex] at e; cases e
  | some xs =>
    rw [ex] at e
    exact og xs z vs H1 Q e (views_rep HR1 r1 ex) q
theorem de_callB {id : String} {x : Str} {p : Pos} {r : List V → Hp → VK → Prop} {g : List P → Option P} (hc : CallR X (.builtin id) r) (og : CallD G r g) (hg : Gl X x) (hm : X.mg x = none) (hv : bootBuiltins x = some (.builtin id)) (ha : DA X G W (e :: es) am)
    (hn : x ≠ "__name__" := by decide) (hdb : (x == ("__debug__" : Str)) = false := by decide)
    (he : starEach (e :: es) X.env = (false, eval e X.env) :: starEach es X.env := by rfl) (hpl : (backTo pos (starEach es X.env)).any (·.1) = false := by rfl) : DE X G W (.Call (.Name x p) (e :: es) [] pos) (opV g am) :=
  iE (pe_callB hc hg hm hv ha hn hdb he hpl) fun σ H Q h => opV_read og h
theorem de_callTy {T : String} {x : Str} {p : Pos} {r : List V → Hp → VK → Prop} {g : List P → Option P} (hc : CallR X (.type T) r) (og : CallD G r g) (hg : Gl X x) (hm : X.mg x = none) (hv : bootBuiltins x = some (.type T)) (ha : DA X G W (e :: es) am)
    (hn : x ≠ "__name__" := by decide) (hdb : (x == ("__debug__" : Str)) = false := by decide)
    (he : starEach (e :: es) X.env = (false, eval e X.env) :: starEach es X.env := by rfl) (hpl : (backTo pos (starEach es X.env)).any (·.1) = false := by rfl) : DE X G W (.Call (.Name x p) (e :: es) [] pos) (opV g am) :=
  iE (pe_callTy hc hg hm hv ha hn hdb he hpl) fun σ H Q h => opV_read og h
theorem reps1 {H : Hp} {vs : List V} {x : P} (h : RepVs G H vs [x]) : ∃ v, vs = [v] ∧ RepV G H v x := by
  match vs, h with
  | [v], h => exact ⟨v, rfl, h.1⟩
  | [], h => exact h.elim
  | _ :: _ :: _, h => exact h.2.elim
def lenG : List P → Option P
  | [.fl xs] => some (.int xs.length)
  | [.tup xs] => some (.int xs.length)
  | [.str z] => if z.length ≤ sizeLine then some (.int z.length) else none
  | _ => none
theorem o_len : CallD G (fun xs H Q => ∃ x n, xs = [x] ∧ LenV G.K x H n ∧ Q (.int n) H) lenG := fun xs z vs H Q e r q => by
  unfold lenG at e
  split at e
  · cases e
    obtain ⟨v, rfl, p, ws, rfl, s, rl⟩ := reps1 r
    refine ⟨_, _, rfl, .inl ⟨ws, s, rfl⟩, ?_⟩
    rw [rl.length]
    exact q _ H (Same.refl H) (Rep.int _)
  · cases e
    obtain ⟨v, rfl, rv⟩ := reps1 r
    obtain ⟨p, ws, rfl, s, rl⟩ := repTup rv
    refine ⟨_, _, rfl, .inr ⟨ws, s, rfl⟩, ?_⟩
    rw [rl.length]
    exact q _ H (Same.refl H) (Rep.int _)
  · simp only [Option.ite_none_right_eq_some, Option.some.injEq] at e
    obtain ⟨hl, rfl⟩ := e
    obtain ⟨v, rfl, rv⟩ := reps1 r
    have := repStr rv
    subst this
    exact ⟨_, _, rfl, ⟨hl, rfl⟩, q _ H (Same.refl H) (Rep.int _)⟩
  · cases e
theorem cr_len (c : Ctx X G W k) : CallR X (.builtin "len") (fun xs H Q => ∃ x n, xs = [x] ∧ LenV G.K x H n ∧ Q (.int n) H) := by rw [← c.hK]; exact call_len
def tupleG : List P → Option P
  | [.fl xs] => some (.tup xs)
  | [.tup xs] => some (.tup xs)
  | _ => none
theorem o_tuple : CallD G (fun xs H Q => ∃ p ys, xs = [.ref p] ∧ ((SqL G.K H p ys ∧ ∀ l, H l = none → Q (.ref l) (upd H l (.tup ys))) ∨ (SqT G.K H p ys ∧ Q (.ref p) H))) tupleG := fun xs z vs H Q e r q => by
  unfold tupleG at e
  split at e
  · cases e
    obtain ⟨v, rfl, p, ws, rfl, s, rl⟩ := reps1 r
    exact ⟨p, ws, rfl, .inl ⟨s, fun l hl => q _ _ (Same.up hl) (newTup hl rl)⟩⟩
  · cases e
    obtain ⟨v, rfl, rv⟩ := reps1 r
    obtain ⟨p, ws, rfl, s, rl⟩ := repTup rv
    exact ⟨p, ws, rfl, .inr ⟨s, q _ H (Same.refl H) (Rep.tup s rl)⟩⟩
  · cases e
theorem cr_tuple (c : Ctx X G W k) : CallR X (.type "tuple") (fun xs H Q => ∃ p ys, xs = [.ref p] ∧ ((SqL G.K H p ys ∧ ∀ l, H l = none → Q (.ref l) (upd H l (.tup ys))) ∨ (SqT G.K H p ys ∧ Q (.ref p) H))) := by rw [← c.hK]; exact call_tuple_of
def intG : List P → Option P
  | [.int i] => some (.int i)
  | [.bl b] => some (.int (if b then 1 else 0))
  | _ => none
theorem o_int : CallD G (fun xs H Q => (∃ i, xs = [.int i] ∧ Q (.int i) H) ∨ ∃ k, xs = [.bl k] ∧ Q (.int (if k then 1 else 0)) H) intG := fun xs z vs H Q e r q => by
  unfold intG at e
  split at e
  · cases e
    obtain ⟨v, rfl, rv⟩ := reps1 r
    exact .inl ⟨_, by rw [repInt rv], q _ H (Same.refl H) (Rep.int _)⟩
  · cases e
    obtain ⟨v, rfl, rv⟩ := reps1 r
    exact .inr ⟨_, by rw [repBl rv], q _ H (Same.refl H) (Rep.int _)⟩
  · cases e
def absG : List P → Option P
  | [.int i] => some (.int (if i < 0 then -i else i))
  | _ => none
theorem o_abs : CallD G (fun xs H Q => ∃ i, xs = [.int i] ∧ Q (.int (if i < 0 then -i else i)) H) absG := fun xs z vs H Q e r q => by
  unfold absG at e
  split at e
  · cases e
    obtain ⟨v, rfl, rv⟩ := reps1 r
    exact ⟨_, by rw [repInt rv], q _ H (Same.refl H) (Rep.int _)⟩
  · cases e
def asBls : List P → Option (List Bool)
  | [] => some []
  | .bl i :: xs => (asBls xs).map (i :: ·)
  | _ :: _ => none
theorem asBls_eq : ∀ {xs : List P} {ns : List Bool}, asBls xs = some ns → xs = ns.map P.bl
  | [], ns, h => by cases h; rfl
  | .bl i :: xs, ns, h => by
    cases e : asBls xs with
    | none => simp only [asBls, e, Option.map_none, reduceCtorEq] at h
    | some ms =>
      simp only [asBls, e, Option.map_some, Option.some.injEq] at h
      subst h
      rw [asBls_eq e]; rfl
  | .non :: _, _, h => by cases h
  | .int _ :: _, _, h => by cases h
  | .str _ :: _, _, h => by cases h
  | .tup _ :: _, _, h => by cases h
  | .fl _ :: _, _, h => by cases h
  | .fi _ _ :: _, _, h => by cases h
theorem asBls_map (ns : List Bool) : asBls (ns.map P.bl) = some ns := by
  induction ns with
  | nil => rfl
  | cons n ns ih => simp [asBls, ih]
def allG : List P → Option P
  | [.fl xs] => (asBls xs).map fun bs => .bl (bs.all id)
  | _ => none
theorem o_all : CallD G (rAll G.K) allG := fun xs z vs H Q e r q => by
  unfold allG at e
  split at e
  · rename_i xs
    cases eb : asBls xs with
    | none => rw [eb] at e; cases e
    | some bs =>
      rw [eb] at e
      cases e
      obtain ⟨v, rfl, p, ws, rfl, s, rl⟩ := reps1 r
      rw [asBls_eq eb] at rl
      have := rl.bls
      subst this
      exact ⟨p, bs, rfl, s, q _ H (Same.refl H) (Rep.bl _)⟩
  · cases e
theorem cr_allG (c : Ctx X G W k) : CallR X (.builtin "all") (rAll G.K) := by rw [← c.hK]; exact cr_all c.hc
def tyP : P → String
  | .non => "NoneType"
  | .bl _ => "bool"
  | .int _ => "int"
  | .str _ => "str"
  | .tup _ => "tuple"
  | .fl _ => "list"
  | .fi _ _ => ""
def isiT (T : String) (am : EM) : EM := fun ρ η => (am ρ η).bind fun d η => ofO ((view η d).bind fun x => match x with
  | .fi _ _ => none
  | x => (kitB (tyP x) T).map P.bl) η
theorem tyx_of {H : Hp} {v : V} {x : P} (r : RepV G H v x) (hf : ∀ c xs, x ≠ .fi c xs) : TyX G.K H v (.type (tyP x)) := by
  cases x with
  | non => rw [repNon r]; exact .base .non
  | bl b => rw [repBl r]; exact .base (.bl b)
  | int b => rw [repInt r]; exact .base (.int b)
  | str b => rw [repStr r]; exact .base (.str b)
  | tup xs =>
    obtain ⟨p, vs, rfl, (h | ⟨o, h⟩) | ⟨o, its, n, h, hc, _⟩, _⟩ := repTup r
    · exact .base (.tup h)
    · exact .fTuple h
    · exact .kTuple h hc
  | fl xs =>
    obtain ⟨p, vs, rfl, (h | ⟨o, h⟩) | ⟨o, its, n, h, hc, _⟩, _⟩ := r
    · exact .base (.lst h)
    · exact .base (.frz h)
    · exact .kList h hc
  | fi c xs => exact (hf c xs rfl).elim
theorem de_isi {T : Str} {TT : String} {p p2 : Pos} (c : Ctx X G W k) (hg : Gl X "isinstance") (hm : X.mg "isinstance" = none) (hgT : Gl X T) (hmT : X.mg T = none) (hvT : bootBuiltins T = some (.type TT)) (ha : DE X G W e m)
    (hs2 : starEach [Expr.Name T p2] X.env = [(false, eval (.Name T p2) X.env)] := by rfl) (hs1 : starEach [e, Expr.Name T p2] X.env = (false, eval e X.env) :: starEach [Expr.Name T p2] X.env := by rfl)
    (hpl : (backTo pos (starEach [Expr.Name T p2] X.env)).any (·.1) = false := by rfl) (hnT : T ≠ "__name__" := by decide) (hdT : (T == ("__debug__" : Str)) = false := by decide) :
    DE X G W (.Call (.Name "isinstance" p) [e, .Name T p2] [] pos) (isiT TT m) := by
  have hT : PE X (.Name T p2) (tC (.ty TT)) := ⟨fun pins s σ H Q I h => ld_blt I hgT hmT hvT ⟨.ty TT, H, I, rfl, h⟩ hnT hdT⟩
  have hA : PA X [e, .Name T p2] (tCons (tM G W m) (tCons (tC (.ty TT)) tNil)) := pa_cons ha (pa_cons hT pa_nil hs2) hs1
  refine iE (pe_callB call_isi hg hm (by decide +kernel) hA (by decide) (by decide) hs1 hpl) fun σ H Q h => ?_
  obtain ⟨ρ, η, μ, E, HR, h⟩ := h
  refine bindE E HR h fun v H1 μ1 d η1 E1 HR1 r1 t1 h1 => ?_
  obtain ⟨z, e, q⟩ := ofO_fin HR1 h1
  cases ex : view η1 d with
  | none => rw [ex] at e; cases e
  | some y =>
    rw [ex, Option.bind_some] at e
    have rv := viewRep HR1 r1 ex
    have main : ∀ (hf : ∀ c xs, y ≠ .fi c xs), (kitB (tyP y) TT).map P.bl = some z → rIsi X.K [v, .ty TT] H1 Q := fun hf e => by
      cases ek : kitB (tyP y) TT with
      | none => rw [ek] at e; cases e
      | some b =>
        rw [ek] at e
        cases e
        refine ⟨v, .ty TT, _, _, b, rfl, .ty TT, ?_, kit_ty ek, q _ H1 (Same.refl H1) (Rep.bl _)⟩
        rw [c.hK]
        exact tyx_of rv hf
    cases y with
    | fi c xs => cases e
    | non => exact main (fun _ _ z => by cases z) e
    | bl _ => exact main (fun _ _ z => by cases z) e
    | int _ => exact main (fun _ _ z => by cases z) e
    | str _ => exact main (fun _ _ z => by cases z) e
    | tup _ => exact main (fun _ _ z => by cases z) e
    | fl _ => exact main (fun _ _ z => by cases z) e
end
end ML
set_option Elab.async false
set_option linter.all false
set_option maxRecDepth 100000
set_option maxHeartbeats 1000000
namespace PySem
open AutoSeq1
open Builtin
end PySem
namespace ML
open PySem PySem.Spec PyProof.Rows L2
section
variable {X : Cx} {G : Gd} {W : WX} {k : Nat} {a b e o : Expr} {ma mb m mo : EM} {am : AM} {pos : Pos} {es : List Expr}
theorem Tr.own {H : Hp} {μ : List Addr} {a : Addr} {u u' : HO} (hm : a ∈ μ) (h : H a = some u) (i : immO u = false) : Tr H μ (upd H a u') μ := by
  refine ⟨Imm.upd h i, fun b o e n => ?_, fun b o e => ?_, [], by simp, fun _ z => nomatch z⟩
  · have : b ≠ a := fun z => n (z ▸ hm)
    rw [upd_ne this]; exact e
  · by_cases hb : b = a
    · subst hb; exact ⟨u', upd_same⟩
    · exact ⟨o, by rw [upd_ne hb]; exact e⟩
theorem RepD.upd {H : Hp} {μ : List Addr} {a : Addr} {u u' : HO} (h : H a = some u) (i : immO u = false) {v : V} : ∀ {d : D}, RepD G H μ v d → RepD G (L2.upd H a u') μ v d
  | .p x, r => Rep.mono (Imm.upd h i) x r
  | .ref n, r => r
  | .xv c xs, ⟨q, e1, e2, e3, e4⟩ => ⟨q, e1, e2, e3, e4.mono (Imm.upd h i)⟩
theorem RepDs.upd {H : Hp} {μ : List Addr} {a : Addr} {u u' : HO} (h : H a = some u) (i : immO u = false) : ∀ {vs : List V} {ds : List D}, RepDs G H μ vs ds → RepDs G (L2.upd H a u') μ vs ds
  | [], [], _ => trivial
  | _ :: _, _ :: _, r => ⟨r.1.upd h i, RepDs.upd h i r.2⟩
  | [], _ :: _, r => r.elim
  | _ :: _, [], r => r.elim
theorem RepO.upd {H : Hp} {μ : List Addr} {a b : Addr} {u u' : HO} (h : H a = some u) (i : immO u = false) (n : b ≠ a) : ∀ {o : Ob}, RepO G H μ b o → RepO G (L2.upd H a u') μ b o
  | .ls xs, ⟨vs, h1, r⟩ => ⟨vs, by rw [upd_ne n]; exact h1, RepL.mono (Imm.upd h i) _ r⟩
  | .lr ns, ⟨as, h1, r⟩ => ⟨as, by rw [upd_ne n]; exact h1, r⟩
  | .dc kvs, ⟨ks, h1, e, r⟩ => ⟨ks, by rw [upd_ne n]; exact h1, e, RepL.mono (Imm.upd h i) _ r⟩
  | .dt kvs, ⟨ks, h1, e, rk, r⟩ => ⟨ks, by rw [upd_ne n]; exact h1, e, RepL.mono (Imm.upd h i) _ rk, RepL.mono (Imm.upd h i) _ r⟩
  | .fz kvs, ⟨ob, ks, h1, e, r⟩ => ⟨ob, ks, by rw [upd_ne n]; exact h1, e, RepL.mono (Imm.upd h i) _ r⟩
  | .fn kvs, ⟨ob, ks, h1, e, rk, r⟩ => ⟨ob, ks, by rw [upd_ne n]; exact h1, e, RepL.mono (Imm.upd h i) _ rk, RepL.mono (Imm.upd h i) _ r⟩
  | .gone, ⟨x, h1⟩ => ⟨x, by rw [upd_ne n]; exact h1⟩
  | .ins c fs, ⟨dx, gs, h1, e, r⟩ => ⟨dx, gs, by rw [upd_ne n]; exact h1, e, r.upd h i⟩
  | .tp ds, ⟨vs, h1, r⟩ => ⟨vs, by rw [upd_ne n]; exact h1, r.upd h i⟩
theorem HeapRep.put {H : Hp} {μ : List Addr} {η : RH} {n : Nat} {a : Addr} {u u' : HO} {ob : Ob} (hr : HeapRep G H μ η) (ha : μ[n]? = some a) (h : H a = some u) (i : immO u = false) (new : RepO G (L2.upd H a u') μ a ob) : HeapRep G (L2.upd H a u') μ (η.set n ob) := by
  refine ⟨by simp [hr.len], hr.nd, fun j b o e1 e2 => ?_⟩
  by_cases hj : n = j
  · subst hj
    rw [ha] at e1; cases e1
    have hl : n < η.length := by
      have := (List.getElem?_eq_some_iff.mp e2).1
      simpa using this
    rw [List.getElem?_set_self hl] at e2
    cases e2
    exact new
  · rw [List.getElem?_set_ne hj] at e2
    have hb : b ≠ a := fun z => by
      subst z
      obtain ⟨h1, e1'⟩ := List.getElem?_eq_some_iff.mp e1
      obtain ⟨h2, ha'⟩ := List.getElem?_eq_some_iff.mp ha
      exact hj ((List.getElem_inj hr.nd).mp (ha'.trans e1'.symm))
    exact (hr.ob j b o e1 e2).upd h i hb
def own (η : RH) : D → Option (Nat × Ob)
  | .ref n => η[n]?.map fun o => (n, o)
  | .p _ => none
  | .xv _ _ => none
theorem own_at {H : Hp} {μ : List Addr} {η : RH} {v : V} {d : D} {n : Nat} {ob : Ob} (hr : HeapRep G H μ η) (r : RepD G H μ v d) (e : own η d = some (n, ob)) : ∃ a, d = .ref n ∧ v = .ref a ∧ μ[n]? = some a ∧ RepO G H μ a ob := by
  cases d with
  | p x => cases e
  | xv c xs => cases e
  | ref i =>
    have e : η[i]?.map (fun o => (i, o)) = some (n, ob) := e
    cases h : η[i]? with
    | none => rw [h] at e; cases e
    | some o' =>
      rw [h] at e
      cases e
      obtain ⟨a, ea, rfl⟩ := r
      exact ⟨a, rfl, rfl, ea, hr.ob n a ob ea h⟩
def mthM (ty : Ob → Bool) (f : RH → Nat → Ob → List D → Res D) (mo : EM) (am : AM) : EM := fun ρ η => (mo ρ η).bind fun d η => if (own η d).any (fun x => ty x.2) = true then (am ρ η).bind fun ds η => (match own η d with
    | some x => f η x.1 x.2 ds
    | none => .bad) else .bad
def MthD (G : Gd) (r : V → List V → Hp → VK → Prop) (f : RH → Nat → Ob → List D → Res D) : Prop := ∀ (W : WX) (σ : SV) (η : RH) (n : Nat) (ob : Ob) (ds : List D) (H : Hp) (μ : List Addr) (a : Addr) (vs : List V) (Q : VK),
  HeapRep G H μ η → μ[n]? = some a → η[n]? = some ob → RepDs G H μ vs ds → FinE G W σ Q H μ (f η n ob ds) → r (.ref a) vs H Q
theorem own_get {η : RH} {d : D} {n : Nat} {ob : Ob} (e : own η d = some (n, ob)) : η[n]? = some ob := by
  cases d with
  | p x => cases e
  | xv c xs => cases e
  | ref i =>
    have e : η[i]?.map (fun o => (i, o)) = some (n, ob) := e
    cases h : η[i]? with
    | none => rw [h] at e; cases e
    | some o' =>
      rw [h] at e
      cases e
      exact h
def isLs : Ob → Bool
  | .ls _ => true
  | .lr _ => true
  | _ => false
theorem isLs_ty {H : Hp} {μ : List Addr} {a : Addr} {ob : Ob} (h : isLs ob = true) (r : RepO G H μ a ob) : tyV G.K "list" (.ref a) H := by
  cases ob <;> first | (cases h; done) | skip
  · obtain ⟨vs, e, _⟩ := r; exact .inl ⟨rfl, vs, SqL.of e⟩
  · obtain ⟨vs, e, _⟩ := r; exact .inl ⟨rfl, _, SqL.of e⟩
theorem mth_read {T : String} {ty : Ob → Bool} {r : V → List V → Hp → VK → Prop} {f : RH → Nat → Ob → List D → Res D} (hty : ∀ {H : Hp} {μ : List Addr} {a : Addr} {ob : Ob}, ty ob = true → RepO G H μ a ob → tyV G.K T (.ref a) H) (og : MthD G r f)
    {σ : SV} {H : Hp} {Q : VK} (h : tM G W (mthM ty f mo am) σ H Q) : tM G W mo σ H fun x H1 => tyV G.K T x H1 ∧ tMA G W am σ H1 fun vs H2 => r x vs H2 Q := by
  obtain ⟨ρ, η, μ, E, HR, h⟩ := h
  refine bindE E HR h fun v H1 μ1 d η1 E1 HR1 r1 t1 h1 => ?_
  split at h1
  · rename_i hy
    cases eo : own η1 d with
    | none => rw [eo] at hy; cases hy
    | some x =>
      obtain ⟨n, ob⟩ := x
      rw [eo] at hy
      obtain ⟨a, rfl, rfl, ha, ro⟩ := own_at HR1 r1 eo
      refine ⟨hty hy ro, bindA E1 HR1 h1 fun vs H2 μ2 ds η2 E2 HR2 r2 t2 h2 => ?_⟩
      cases eo2 : own η2 (.ref n) with
      | none => rw [eo2] at h2; exact h2.elim
      | some x2 =>
        obtain ⟨n2, ob2⟩ := x2
        rw [eo2] at h2
        obtain ⟨a2, e1, e2, ha2, ro2⟩ := own_at HR2 (r1.mono t2) eo2
        cases e1
        cases e2
        exact og W σ η2 n ob2 ds H2 μ2 a vs Q HR2 ha2 (own_get eo2) r2 h2
  · exact h1.elim
theorem de_mth {id : String} {nm : Str} {T : String} {ty : Ob → Bool} {r : V → List V → Hp → VK → Prop} {f : RH → Nat → Ob → List D → Res D} {apos : Pos} (c : Ctx X G W k) (pa : PlainAttrs T) (slot : Slot T nm id) (htp : typeOf (.builtin id) = pure (.type "method_descriptor")) (hm : MtR X id r)
    (hty : ∀ {H : Hp} {μ : List Addr} {a : Addr} {ob : Ob}, ty ob = true → RepO G H μ a ob → tyV G.K T (.ref a) H) (og : MthD G r f) (ho : DE X G W o mo) (ha : DA X G W (e :: es) am)
    (hbase : attributeBase o nm X.env (eval o X.env) = eval o X.env := by rfl)
    (hfew : ((backTo pos (starEach (e :: es) X.env)).all (fun x => !x.1) && (backToKw pos (keywordEach [] X.env)).all (fun x => x.1.isSome)
      && decide ((e :: es).length + ([] : List Keyword).length + (if ([] : List Keyword).isEmpty then 0 else 1) < 30)) = true := by rfl)
    (hline : (apos.endLine == pos.line) = true := by rfl) (hs : starEach (e :: es) X.env = (false, eval e X.env) :: starEach es X.env := by rfl) (hplain : (backTo pos (starEach es X.env)).any (·.1) = false := by rfl) :
    DE X G W (.Call (.Attribute o nm apos) (e :: es) [] pos) (mthM ty f mo am) :=
  iE (pe_bm pa slot htp hm ho ha hbase hfew hline hs hplain) fun σ H Q h => by
    unfold tBM
    rw [c.hK]
    exact mth_read hty og h
theorem fin_non {σ : SV} {Q : VK} {H H' : Hp} {μ μ' : List Addr} {η : RH} (h : FinE G W σ Q H μ (.ok (.p .non) η)) (t : Tr H μ H' μ') (hr : HeapRep G H' μ' η) : Q .non H' :=
  h _ _ _ t (show Rep G H' .non .non from Rep.non) hr
def appF (η : RH) (n : Nat) : Ob → List D → Res D
  | .ls xs, [.p y] => if xs.length < sizeLine then .ok (.p .non) (η.set n (.ls (xs ++ [y]))) else .bad
  | .lr ns, [.ref j] => if ns.length < sizeLine then .ok (.p .non) (η.set n (.lr (ns ++ [j]))) else .bad
  | _, _ => .bad
theorem repDs1 {H : Hp} {μ : List Addr} {vs : List V} {d : D} (h : RepDs G H μ vs [d]) : ∃ v, vs = [v] ∧ RepD G H μ v d := by
  match vs, h with
  | [v], h => exact ⟨v, rfl, h.1⟩
  | [], h => exact h.elim
  | _ :: _ :: _, h => exact h.2.elim
theorem m_app : MthD G rAppend appF := fun W σ η n ob ds H μ a vs Q HR ha hob rd h => by
  have hmem : a ∈ μ := List.mem_of_getElem? ha
  have ro := HR.ob n a ob ha hob
  unfold appF at h
  split at h
  · rename_i xs y
    split at h
    · rename_i hl
      obtain ⟨v, rfl, rv⟩ := repDs1 rd
      obtain ⟨us, hu, ru⟩ := ro
      refine ⟨a, us, v, rfl, rfl, hu, by rw [ru.length]; exact hl, ?_⟩
      exact fin_non h (Tr.own hmem hu rfl)
        (HR.put ha hu rfl ⟨_, upd_same, RepL.mono (Imm.upd hu rfl) _ (ru.append (RepL.one rv))⟩)
    · exact h.elim
  · rename_i ns j
    split at h
    · rename_i hl
      obtain ⟨v, rfl, b, hb, rfl⟩ := repDs1 rd
      obtain ⟨as, hu, ru⟩ := ro
      have hlen : as.length = ns.length := by simpa using congrArg List.length ru
      refine ⟨a, as.map V.ref, .ref b, rfl, rfl, hu, by rw [List.length_map, hlen]; exact hl, ?_⟩
      exact fin_non h (Tr.own hmem hu rfl)
        (HR.put ha hu rfl ⟨as ++ [b], by rw [upd_same]; simp, by simp [ru, hb]⟩)
    · exact h.elim
  · exact h.elim
theorem de_app {apos : Pos} (c : Ctx X G W k) (ho : DE X G W o mo) (he : DE X G W e m)
    (hbase : attributeBase o "append" X.env (eval o X.env) = eval o X.env := by rfl)
    (hfew : ((backTo pos (starEach [e] X.env)).all (fun x => !x.1) && (backToKw pos (keywordEach [] X.env)).all (fun x => x.1.isSome)
      && decide ([e].length + ([] : List Keyword).length + (if ([] : List Keyword).isEmpty then 0 else 1) < 30)) = true := by rfl)
    (hline : (apos.endLine == pos.line) = true := by rfl) (hs : starEach [e] X.env = (false, eval e X.env) :: starEach [] X.env := by rfl) :
    DE X G W (.Call (.Attribute o "append" apos) [e] [] pos) (mthM isLs appF mo (consA m nilA)) :=
  de_mth c PySem.F.plainAttrs_list PySem.F.slot_list_append PySem.F.type_list_append mt_append isLs_ty m_app ho (da_cons he da_nil hs) hbase hfew hline hs rfl
def stoF (η : RH) (d i y : D) : Option RH := match own η d, view η i, y with
  | some (n, .ls xs), some (.int j), .p v => (ixN xs.length j).map fun t => η.set n (.ls (xs.set t v))
  | some (n, .lr ns), some (.int j), .ref r => (ixN ns.length j).map fun t => η.set n (.lr (ns.set t r))
  | _, _, _ => none
def stoS (mo mi me : EM) : SM := fun ρ η => ResS (me ρ η) ρ fun y η => ResS (mo ρ η) ρ fun d η => ResS (mi ρ η) ρ fun i η => match stoF η d i y with
  | some η => .nx ρ η
  | none => .bad
theorem sto_fin {D : Ends} {σ : SV} {H : Hp} {μ : List Addr} {ρ : LEnv} {η η' : RH} {d i y : ML.D} {vo vi vy : V} (E : EnvRep G H μ σ ρ) (HR : HeapRep G H μ η) (ro : RepD G H μ vo d) (ri : RepD G H μ vi i) (ry : RepD G H μ vy y) (e : stoF η d i y = some η') (h : FinS G W D H μ (.nx ρ η')) :
    rSetL vo vi vy H fun H3 => D.nx σ H3 := by
  unfold stoF at e
  split at e
  · rename_i n xs j v eo ei
    obtain ⟨a, rfl, rfl, ha, us, hu, ru⟩ := own_at HR ro eo
    cases et : ixN xs.length j with
    | none => rw [et] at e; cases e
    | some t =>
      rw [et] at e
      cases e
      refine ⟨a, us, j, t, rfl, repInt (viewRep HR ri ei), hu, by rw [ru.length]; exact et, ?_⟩
      have hmem : a ∈ μ := List.mem_of_getElem? ha
      exact h σ _ μ (Tr.own hmem hu rfl) (E.mono (Tr.own hmem hu rfl)) (HR.put ha hu rfl ⟨_, upd_same, RepL.mono (Imm.upd hu rfl) _ (RepL.set t (show Rep G H vy v from ry) ru)⟩)
  · rename_i n ns j r eo ei
    obtain ⟨a, rfl, rfl, ha, as, hu, ru⟩ := own_at HR ro eo
    obtain ⟨b, hb, rfl⟩ := ry
    cases et : ixN ns.length j with
    | none => rw [et] at e; cases e
    | some t =>
      rw [et] at e
      cases e
      have hlen : as.length = ns.length := by simpa using congrArg List.length ru
      refine ⟨a, _, j, t, rfl, repInt (viewRep HR ri ei), hu, by rw [List.length_map, hlen]; exact et, ?_⟩
      have hmem : a ∈ μ := List.mem_of_getElem? ha
      exact h σ _ μ (Tr.own hmem hu rfl) (E.mono (Tr.own hmem hu rfl)) (HR.put ha hu rfl ⟨as.set t b, by rw [upd_same, List.map_set], by rw [List.map_set, List.map_set, ru, hb]⟩)
  · cases e
theorem ds_sto {o i : Expr} {mi : EM} {tpos : Pos} (he : DE X G W e m) (ho : DE X G W o mo) (hi : DE X G W i mi)
    (ha : ∀ v, assign (.Subscript o i tpos) X.env v = (do
      let ov ← holding [v] (eval o X.env)
      let iv ← holding [v, ov] (eval i X.env)
      standAt tpos
      holding [v, ov, iv] (setItem ov iv v)
      release [v, ov, iv] []) := by intro _; rfl)
    (hs : swapsWithSole [.Subscript o i tpos] e pos.line X.env = pure false := by rfl) (hw : swappedStores [.Subscript o i tpos] e X.env = pure none := by rfl) (h1 : (assignEach [.Subscript o i tpos] X.env).map (·.2) = [assign (.Subscript o i tpos) X.env] := by rfl) :
    DS X G W (.Assign [.Subscript o i tpos] e pos) (stoS mo mi m) :=
  iS (ps_asg he (pg_sub ho hi set_list ha) hs hw h1) fun D σ H h => by
    obtain ⟨ρ, η, μ, E, HR, h⟩ := h
    refine bindSE E HR h fun vy H1 μ1 y η1 E1 HR1 r1 t1 h1 => ?_
    refine bindSE E1 HR1 h1 fun vo H2 μ2 d η2 E2 HR2 r2 t2 h2 => ?_
    refine bindSE E2 HR2 h2 fun vi H3 μ3 i η3 E3 HR3 r3 t3 h3 => ?_
    cases es : stoF η3 d i y with
    | none => rw [es] at h3; exact h3.elim
    | some η4 =>
      rw [es] at h3
      exact sto_fin E3 HR3 (r2.mono t3) r3 ((r1.mono t2).mono t3) es h3
end
end ML
set_option Elab.async false
set_option linter.all false
set_option maxRecDepth 100000
set_option maxHeartbeats 1000000
namespace ML
open PySem PySem.Spec PyProof.Rows L2
inductive PRes where
  | ok (x : P) | ex (c : Nat) (xs : List P) | bad
abbrev FP := List P → PRes
abbrev FS := List D → RH → Res D
def FinP (G : Gd) (H : Hp) (Q : VK) (E : XK) : PRes → Prop
  | .ok x => ∀ v H', Same H H' → Rep G H' v x → Q v H'
  | .ex c xs => ∀ d H', Same H H' → ExR G H' d c xs → E (.ref (G.cls c)) (some d) H'
  | .bad => False
def spP (G : Gd) (n : Nat) (F : FP) : Sp := fun vs H Q E => vs.length = n ∧ ∃ xs, RepL G H vs xs ∧ FinP G H Q E (F xs)
def spS (G : Gd) (n : Nat) (F : FS) : Sp := fun vs H Q E => vs.length = n ∧ ∃ ds η μ, RepDs G H μ vs ds ∧ HeapRep G H μ η ∧ FinE G (fun cls d _ H' => E cls d H') [] Q H μ (F ds η)
def startP (n : Nat) (xs : List P) : LEnv := xs.map (fun x => some (.p x)) ++ List.replicate (n - xs.length) none
def startD (n : Nat) (ds : List D) : LEnv := ds.map some ++ List.replicate (n - ds.length) none
def retP (η : RH) : D → PRes
  | .p x => .ok x
  | .ref n => match η[n]? with
    | some (.ls xs) => .ok (.fl xs)
    | _ => .bad
  | .xv _ _ => .bad
def fnP (n : Nat) (s : SM) : FP := fun xs => match s (startP n xs) [] with
  | .nx _ _ => .ok .non
  | .rt d η => retP η d
  | .ex c ys _ _ => .ex c ys
  | _ => .bad
def fnS (n : Nat) (s : SM) : FS := fun ds η => match s (startD n ds) η with
  | .nx _ η => .ok (.p .non) η
  | .rt d η => .ok d η
  | .ex c ys _ η => .ex c ys η
  | _ => .bad
section
variable {G : Gd} {H : Hp}
theorem getElem?_repl_none {α : Type} {n i : Nat} {d : α} (h : (List.replicate n (none : Option α))[i]? = some (some d)) : False := by
  rw [List.getElem?_replicate] at h
  split at h <;> cases h
theorem start_rep {N : List Str} {vs : List V} {xs : List P} {μ : List Addr} (r : RepL G H vs xs) : EnvRep G H μ (start N vs) (startP N.length xs) := by
  refine ⟨by simp [L2.start, startP, r.length], fun i d h => ?_⟩
  unfold startP at h
  unfold L2.start
  by_cases hi : i < xs.length
  · rw [List.getElem?_append_left (by simpa using hi), List.getElem?_map] at h
    cases e : xs[i]? with
    | none => rw [e] at h; cases h
    | some x =>
      rw [e] at h
      cases h
      obtain ⟨v, h1, h2⟩ := r.get e
      exact ⟨v, by rw [List.getElem?_append_left (by simpa [r.length] using hi), List.getElem?_map, h1]; rfl, h2⟩
  · rw [List.getElem?_append_right (by simpa using hi)] at h
    exact (getElem?_repl_none h).elim
theorem RepDs.get {μ : List Addr} : ∀ {vs : List V} {ds : List D} {i : Nat} {d : D}, RepDs G H μ vs ds → ds[i]? = some d → ∃ v, vs[i]? = some v ∧ RepD G H μ v d
  | [], [], _, _, _, e => by simp at e
  | v :: vs, x :: ds, 0, d, r, e => by simp at e; subst e; exact ⟨v, rfl, r.1⟩
  | v :: vs, x :: ds, i + 1, d, r, e => by
    obtain ⟨u, h1, h2⟩ := RepDs.get (i := i) r.2 (by simpa using e)
    exact ⟨u, by simpa using h1, h2⟩
  | [], _ :: _, _, _, r, _ => r.elim
  | _ :: _, [], _, _, r, _ => r.elim
theorem start_repD {N : List Str} {vs : List V} {ds : List D} {μ : List Addr} (r : RepDs G H μ vs ds) : EnvRep G H μ (start N vs) (startD N.length ds) := by
  refine ⟨by simp [L2.start, startD, r.length], fun i d h => ?_⟩
  unfold startD at h
  unfold L2.start
  by_cases hi : i < ds.length
  · rw [List.getElem?_append_left (by simpa using hi), List.getElem?_map] at h
    cases e : ds[i]? with
    | none => rw [e] at h; cases h
    | some x =>
      rw [e] at h
      cases h
      obtain ⟨v, h1, h2⟩ := r.get e
      exact ⟨v, by rw [List.getElem?_append_left (by simpa [r.length] using hi), List.getElem?_map, h1]; rfl, h2⟩
  · rw [List.getElem?_append_right (by simpa using hi)] at h
    exact (getElem?_repl_none h).elim
theorem HeapRep.nil : HeapRep G H [] [] := ⟨rfl, List.nodup_nil, fun n a o h => by simp at h⟩
theorem Tr.toSame {H' : Hp} {μ' : List Addr} (t : Tr H [] H' μ') : Same H H' := fun b o h => t.fr b o h (by simp)
end
theorem pss_frzR {X : Cx} {b : List Stmt} {t : TS} (h : PSs X b t) : PSs X b (fun D σ H => t { D with rt := fun v H' => (∃ p xs, v = .ref p ∧ H' p = some (.lst xs) ∧ ∀ o, D.rt v (upd H' p (.frz o (.lst xs)))) ∨ D.rt v H' } σ H) := by
  refine ⟨fun pins s σ H D I q => thn (h.run pins s σ H _ I q) fun f s1 q1 => ?_⟩
  cases f with
  | next => exact q1
  | ret u =>
    obtain ⟨v, σ', H', I', r, q2⟩ := q1
    rcases q2 with ⟨p, xs, e, hp, q2⟩ | q2
    · obtain ⟨od, I2⟩ := I'.lock hp trivial
      exact ⟨v, σ', _, I2, r, q2 od⟩
    · exact ⟨v, σ', H', I', r, q2⟩
  | brk => exact q1
  | cont => exact q1
section
variable {P' : Program} {w : World} {G : Gd} {mg : Str → Option Value} {base : Heap} {x qual : Str} {st : Stmt} {f : Addr} {fd : FuncData} {N ps : List Str} {k : Nat} {s : SM}
abbrev bodyX (P' : Program) (w : World) (K : PySem.W.Frag) (mg : Str → Option Value) (base : Heap) (N : List Str) (qual : Str) (st : Stmt) (f : Addr) (cdv : Value) (A : Around) (outer : List Env) (s : Shared) (H : Hp) (E : XK) : Cx :=
  cxOf (L2.CX P' w) P' w K mg base N qual (defScope st) f cdv A outer s H E
abbrev bodyW (E : XK) : WX := fun cls d _ H => E cls d H
theorem ctx_body {cdv : Value} {A : Around} {outer : List Env} {s : Shared} {H : Hp} {E : XK} (S : FnScope N ps (defScope st)) (hr : Room k (A.deeper (envOfC qual (defScope st) s.heap.objs.size f cdv))) :
    Ctx (bodyX P' w G.K mg base N qual st f cdv A outer s H E) G (bodyW E) k :=
  ⟨rfl, rfl, S.nd, takes_of rfl rfl rfl rfl, passes_of rfl, hr⟩
theorem okP' (F : Fun G.K x qual st f fd) (S : FnScope N ps (defScope st))
    (hb : ∀ (cdv : Value) (A : Around) (outer : List Env) (sh : Shared) (H : Hp) (E : XK), Ctx (bodyX P' w G.K mg base N qual st f cdv A outer sh H E) G (bodyW E) k → DSs (bodyX P' w G.K mg base N qual st f cdv A outer sh H E) G (bodyW E) (defBody st) s) :
    FnOk P' w G.K mg base (L2.CX P' w) (k + 1) f fd ps (spP G ps.length (fnP N.length s)) := by
  refine F.okX S (fun vs H Q E h => h.1) fun cdv A outer sh H vs Q E hr h => ?_
  obtain ⟨hl, xs, r, h⟩ := h
  refine ⟨_, pss_frzR (hb cdv A outer sh H E (ctx_body S hr)), startP N.length xs, [], [], start_rep r, HeapRep.nil, ?_⟩
  unfold fnP at h
  cases hs : s (startP N.length xs) [] with
  | nx ρ η =>
    rw [hs] at h
    exact fun σ' H' μ' t E' hr' => h _ H' t.toSame Rep.non
  | rt d η =>
    rw [hs] at h
    intro v H' μ' t rd hr'
    cases d with
    | p y => exact .inr (h v H' t.toSame rd)
    | xv c xs => exact h.elim
    | ref n =>
      obtain ⟨a, ha, rfl⟩ := rd
      have h : FinP G H Q E (match η[n]? with | some (.ls xs) => .ok (.fl xs) | _ => .bad) := h
      cases ho : η[n]? with
      | none => rw [ho] at h; exact h.elim
      | some ob =>
        rw [ho] at h
        cases ob <;> first | exact h.elim | skip
        rename_i ys
        obtain ⟨vs', hu, ru⟩ := hr'.ob n a _ ha ho
        refine .inl ⟨a, vs', rfl, hu, fun o => ?_⟩
        have hn : H a = none := by
          obtain ⟨l, e, fr⟩ := t.pre
          rw [List.nil_append] at e
          subst e
          exact fr a (List.mem_of_getElem? ha)
        refine h _ _ (fun b u e => ?_) (Rep.fl (.inl ⟨o, upd_same⟩) (RepL.mono (Imm.upd hu rfl) _ ru))
        rw [upd_ne (ne_of_none e hn)]
        exact t.toSame b u e
  | bk ρ η => rw [hs] at h; exact h.elim
  | ct ρ η => rw [hs] at h; exact h.elim
  | ex c ys ρ η =>
    rw [hs] at h
    exact fun d σ' H' μ' t E' ex hr' => h d H' t.toSame ex
  | bad => rw [hs] at h; exact h.elim
theorem okS (F : Fun G.K x qual st f fd) (S : FnScope N ps (defScope st))
    (hb : ∀ (cdv : Value) (A : Around) (outer : List Env) (sh : Shared) (H : Hp) (E : XK), Ctx (bodyX P' w G.K mg base N qual st f cdv A outer sh H E) G (bodyW E) k → DSs (bodyX P' w G.K mg base N qual st f cdv A outer sh H E) G (bodyW E) (defBody st) s) :
    FnOk P' w G.K mg base (L2.CX P' w) (k + 1) f fd ps (spS G ps.length (fnS N.length s)) := by
  refine F.okX S (fun vs H Q E h => h.1) fun cdv A outer sh H vs Q E hr h => ?_
  obtain ⟨hl, ds, η, μ, r, hr0, h⟩ := h
  refine ⟨_, hb cdv A outer sh H E (ctx_body S hr), startD N.length ds, η, μ, start_repD r, hr0, ?_⟩
  unfold fnS at h
  cases hs : s (startD N.length ds) η with
  | nx ρ η1 =>
    rw [hs] at h
    exact fun σ' H' μ' t E' hr' => h _ H' μ' t (show Rep G H' .non .non from Rep.non) hr'
  | rt d η1 => rw [hs] at h; exact h
  | bk ρ η1 => rw [hs] at h; exact h.elim
  | ct ρ η1 => rw [hs] at h; exact h.elim
  | ex c ys ρ η1 =>
    rw [hs] at h
    exact fun d σ' H' μ' t E' ex hr' => h d H' μ' t ex hr'
  | bad => rw [hs] at h; exact h.elim
end
def callP (F : FP) (am : AM) : EM := fun ρ η => (am ρ η).bind fun ds η => match asPs ds with
  | some xs => (match F xs with
    | .ok x => .ok (.p x) η
    | .ex c ys => .ex c ys η
    | .bad => .bad)
  | none => .bad
section
variable {X : Cx} {G : Gd} {W : WX} {k : Nat} {e : Expr} {am : AM} {pos p : Pos} {es : List Expr} {f : Addr} {fd : FuncData} {ps : List Str} {n : Nat} {x : Str}
theorem callP_read {F : FP} {σ : SV} {H : Hp} {Q : VK} (h : tM G W (callP F am) σ H Q) (hn : ∀ vs H Q E xs, RepL G H vs xs → FinP G H Q E (F xs) → vs.length = n) : tMA G W am σ H fun vs H1 => spP G n F vs H1 Q (WE W σ) := by
  obtain ⟨ρ, η, μ, E, HR, h⟩ := h
  refine bindA E HR h fun vs H1 μ1 ds η1 E1 HR1 r1 t1 h1 => ?_
  cases ex : asPs ds with
  | none => rw [ex] at h1; exact h1.elim
  | some xs =>
    rw [ex] at h1
    have rl := asPs_rep ex r1
    have fin : FinP G H1 Q (WE W σ) (F xs) := by
      cases eF : F xs with
      | ok y =>
        simp only [eF] at h1
        exact fun v H' s r => h1 v H' μ1 (Tr.same s) r (HR1.same s)
      | ex c ys =>
        simp only [eF] at h1
        exact fun d H' s r => h1 d H' μ1 (Tr.same s) r (HR1.same s)
      | bad => simp only [eF] at h1; exact h1.elim
    exact ⟨hn vs H1 Q (WE W σ) xs rl fin, xs, rl, fin⟩
def arity (n : Nat) (F : FP) : FP := fun xs => if xs.length = n then F xs else .bad
def arityS (n : Nat) (F : FS) : FS := fun ds η => if ds.length = n then F ds η else .bad
theorem de_call {F : FP} (c : Ctx X G W k) (ok : FnOk X.prog X.w X.K X.mg X.base (L2.CX X.prog X.w) k f fd ps (spP G ps.length F)) (hg : Gl X x) (hm : X.mg x = some (.ref f)) (hk : PySem.W.keepIn X.K (.ref f) = true) (hb : Binds X.K fd ps []) (ha : DA X G W (e :: es) am)
    (hl : (e :: es).length = ps.length := by rfl) (hdb : (x == ("__debug__" : Str)) = false := by decide) (he : starEach (e :: es) X.env = (false, eval e X.env) :: starEach es X.env := by rfl) (hpl : (backTo pos (starEach es X.env)).any (·.1) = false := by rfl) :
    DE X G W (.Call (.Name x p) (e :: es) [] pos) (callP (arity ps.length F) am) := by
  have ok' : FnOk X.prog X.w X.K X.mg X.base (L2.CX X.prog X.w) k f fd ps (spP G ps.length (arity ps.length F)) := ok.imp fun vs H Q E h => by
    obtain ⟨h1, xs, r, h2⟩ := h
    refine ⟨h1, xs, r, ?_⟩
    unfold arity at h2
    split at h2
    · exact h2
    · exact h2.elim
  refine iE (pe_callS (E := WE W) ok' c.hr hg hm hk hb (fun σ => passAt c.tk σ) ha hdb he hpl) fun σ H Q h => ?_
  refine callP_read h fun vs H Q E xs r fin => ?_
  unfold arity at fin
  split at fin
  · rename_i hx
    rw [r.length, hx]
  · exact fin.elim
end
end ML
namespace ML
open PySem PySem.Spec PyProof.Rows L2
def HasFn (P' : Program) (w : World) (G : Gd) (mg : Str → Option Value) (base : Heap) (x : Str) (st : Stmt) (ps : List Str) (k : Nat) (sp : Sp) : Prop :=
  ∃ f fd, Fun G.K x x st f fd ∧ FnOk P' w G.K mg base (L2.CX P' w) k f fd ps sp ∧ mg x = some (.ref f) ∧ PySem.W.keepIn G.K (.ref f) = true ∧ Binds G.K fd ps []
def DefAt (K : PySem.W.Frag) (mg : Str → Option Value) (x : Str) (st : Stmt) (ps : List Str) : Prop := ∃ f fd, Fun K x x st f fd ∧ mg x = some (.ref f) ∧ Binds K fd ps []
theorem defAt_mk {K : PySem.W.Frag} {h : Heap} {mg : Str → Option Value} {x : Str} {st : Stmt} {ps : List Str} {f : Addr} {oc : Value} {od an : Option Addr} {osl : Array (Option Value)} {kV doc pm cdv ct : Value} (X : K.In h) (G : h.Ns mainGlobals mg)
    (a : PySem.W.nsIn K mainGlobals x = some (some (.ref f))) (l : K.lookup f = some ⟨oc, od, .func (PySem.W.fnOf x x (defArgs st) (defBody st) (defScope st) .none kV doc pm an cdv ct), osl⟩) (c : PySem.W.codeIn K cdv x = true) (k : PySem.W.keepIn K (.ref f) = true)
    (b : ∀ (kV doc pm : Value) (an : Option Addr) (cdv ct : Value) (us : List Value), us.length = ps.length → bindArgs (PySem.W.fnOf x x (defArgs st) (defBody st) (defScope st) .none kV doc pm an cdv ct) ⟨us, []⟩ = pure (ps.zip us)) : DefAt K mg x st ps :=
  ⟨f, _, fun_mk l c k, PySem.W.mg_of X G a, (fun_mk l c k).binds b⟩
section
variable {P' : Program} {w : World} {G : Gd} {mg : Str → Option Value} {base : Heap} {x : Str} {st : Stmt} {N ps : List Str} {k : Nat} {s : SM}
theorem hasP (F : DefAt G.K mg x st ps) (S : FnScope N ps (defScope st))
    (hb : ∀ (f : Addr) (cdv : Value) (A : Around) (outer : List Env) (sh : Shared) (H : Hp) (E : XK), Ctx (bodyX P' w G.K mg base N x st f cdv A outer sh H E) G (bodyW E) k → DSs (bodyX P' w G.K mg base N x st f cdv A outer sh H E) G (bodyW E) (defBody st) s) :
    HasFn P' w G mg base x st ps (k + 1) (spP G ps.length (fnP N.length s)) := by
  obtain ⟨f, fd, F, m, b⟩ := F
  exact ⟨f, fd, F, okP' F S (hb f), m, F.kp, b⟩
theorem hasS (F : DefAt G.K mg x st ps) (S : FnScope N ps (defScope st))
    (hb : ∀ (f : Addr) (cdv : Value) (A : Around) (outer : List Env) (sh : Shared) (H : Hp) (E : XK), Ctx (bodyX P' w G.K mg base N x st f cdv A outer sh H E) G (bodyW E) k → DSs (bodyX P' w G.K mg base N x st f cdv A outer sh H E) G (bodyW E) (defBody st) s) :
    HasFn P' w G mg base x st ps (k + 1) (spS G ps.length (fnS N.length s)) := by
  obtain ⟨f, fd, F, m, b⟩ := F
  exact ⟨f, fd, F, okS F S (hb f), m, F.kp, b⟩
end
section
variable {X : Cx} {G : Gd} {W : WX} {k j : Nat} {e : Expr} {am : AM} {pos p : Pos} {es : List Expr} {ps : List Str} {x : Str} {st : Stmt}
theorem de_callH {F : FP} (c : Ctx X G W k) (h : HasFn X.prog X.w G X.mg X.base x st ps j (spP G ps.length F)) (ha : DA X G W (e :: es) am) (hj : j ≤ k := by decide) (hg : Gl X x := by rfl) (hl : (e :: es).length = ps.length := by rfl)
    (hdb : (x == ("__debug__" : Str)) = false := by decide) (he : starEach (e :: es) X.env = (false, eval e X.env) :: starEach es X.env := by rfl) (hpl : (backTo pos (starEach es X.env)).any (·.1) = false := by rfl) :
    DE X G W (.Call (.Name x p) (e :: es) [] pos) (callP (arity ps.length F) am) := by
  obtain ⟨f, fd, fn, ok, hm, hk, hb⟩ := h
  rw [← c.hK] at ok hk hb
  exact de_call c (ok.mono hj) hg hm hk hb ha hl hdb he hpl
theorem RepDs.append {H : Hp} {μ : List Addr} : ∀ {vs us : List V} {ds es : List D}, RepDs G H μ vs ds → RepDs G H μ us es → RepDs G H μ (vs ++ us) (ds ++ es)
  | [], _, [], _, _, h => h
  | _ :: _, _, _ :: _, _, h, h' => ⟨h.1, RepDs.append h.2 h'⟩
  | [], _, _ :: _, _, h, _ => h.elim
  | _ :: _, _, [], _, h, _ => h.elim
end
end ML
set_option Elab.async false
set_option linter.all false
set_option maxRecDepth 100000
set_option maxHeartbeats 1000000
namespace ML
open PySem PySem.Spec PyProof.Rows L2
section
variable {X : Cx} {G : Gd} {W : WX} {k : Nat} {a b e o : Expr} {ma mb m mo : EM} {am : AM} {pos : Pos} {es : List Expr}
theorem de_gint {x : Str} {i : Int} {t : Tok} {p : Pos} (hm : X.mg x = some (.int i t)) (hg : Gl X x := by rfl) (hd : (x == ("__debug__" : Str)) = false := by decide) : DE X G W (.Name x p) (cM (.int i)) :=
  de_c (pe_glob (v := .int i) hg hm ⟨t, rfl⟩ hd) fun _ => Rep.int i
def addIS : P → P → Option P := fun x y => (addI x y).or (addS x y)
theorem iop_addIS : OpR X (inplaceOp .Add) (fun x y H Q => rI0 (fun i j => .int (i + j)) x y H Q ∨ (∃ i j, x = .str i ∧ y = .str j ∧ i.length + j.length ≤ sizeLine ∧ Q (.str (i ++ j)) H)) := iop_add.or iop_add_str
theorem o_addIS : Op2 G (fun x y H Q => rI0 (fun i j => .int (i + j)) x y H Q ∨ (∃ i j, x = .str i ∧ y = .str j ∧ i.length + j.length ≤ sizeLine ∧ Q (.str (i ++ j)) H)) addIS := o_addI.or1 o_addS
end
section
variable {P' : Program} {w : World} {G : Gd} {mg : Str → Option Value} {base : Heap} {x : Str} {st : Stmt} {N ps : List Str} {k : Nat}
theorem hasBad (F : DefAt G.K mg x st ps) (n : Nat) : HasFn P' w G mg base x st ps k (spP G n fun _ => .bad) := by
  obtain ⟨f, fd, F, m, b⟩ := F
  exact ⟨f, fd, F, ⟨fun vs H Q E h => h.2.elim fun _ h => h.2.elim, fun A outer s H args us vs Q E hr e0 hb hv hs => hs.2.elim fun _ h => h.2.elim⟩, m, F.kp, b⟩
end
theorem cx_end {P' : Program} {w : World} {H : Hp} {s : Shared} {e : Value} {s' : Shared} (h : L2.CX P' w [] H s (fun _ _ _ => False) e s') : False := by
  obtain ⟨_, _, _, _, _, _, _, _, _, _, _, _, z⟩ := h
  exact z
theorem script_rep {G : Gd} {H : Hp} {a : Addr} {ns : List Int} (hO : Only H) (h : SqL G.K H a (ns.map V.int)) : Rep G H (.ref a) (.fl (ns.map P.int)) := by
  refine Rep.fl ?_ RepL.of_ints
  rcases h with (h | ⟨o, h⟩) | h
  · rcases hO a with z | ⟨o, xs, z⟩
    · rw [h] at z; cases z
    · rw [h] at z; cases z
  · exact .inl ⟨o, h⟩
  · exact .inr h
def spLaw (K : PySem.W.Frag) : Sp := fun vs H Q E => ∃ (a : Addr) (ns : List Int), vs = [.ref a] ∧ ns.length ≤ 63 ∧ Only H ∧ SqL K H a (ns.map V.int) ∧ ∀ H', Q (.bl true) H'
theorem law_sp {G : Gd} {F : FP} (hF : ∀ ns : List Int, ns.length ≤ 63 → F [.fl (ns.map P.int)] = .ok (.bl true)) {vs : List V} {H : Hp} {Q : VK} {E : XK} (h : spLaw G.K vs H Q E) : spP G 1 F vs H Q E := by
  obtain ⟨a, ns, rfl, hl, hO, hs, q⟩ := h
  refine ⟨rfl, [.fl (ns.map P.int)], RepL.one (script_rep hO hs), ?_⟩
  rw [hF ns hl]
  intro v H' s r
  rw [repBl (Rep.view r)]
  exact q H'
theorem fun_inj {K : PySem.W.Frag} {x y q q' : Str} {st st' : Stmt} {f : Addr} {fd fd' : FuncData} (a : Fun K x q st f fd) (b : Fun K y q' st' f fd') : fd = fd' := by
  obtain ⟨_, _, _, _, _, _, _, _, _, _, h, _⟩ := a.ex
  obtain ⟨_, _, _, _, _, _, _, _, _, _, h', _⟩ := b.ex
  rw [h] at h'
  cases h'
  rfl
abbrev KOf {K : PySem.W.Frag} {h : Heap} (_ : K.In h) : PySem.W.Frag := K
theorem use_def {K : PySem.W.Frag} {h : Heap} {mg : Str → Option Value} (X : K.In h) (G : h.Ns mainGlobals mg) (x : Str) (st : Stmt) (ps : List Str)
    (b : ∀ (kV doc pm : Value) (an : Option Addr) (cdv ct : Value) (us : List Value), us.length = ps.length → bindArgs (PySem.W.fnOf x x (defArgs st) (defBody st) (defScope st) .none kV doc pm an cdv ct) ⟨us, []⟩ = pure (ps.zip us))
    {f : Addr} {oc : Value} {od an : Option Addr} {osl : Array (Option Value)} {kV doc pm cdv ct : Value} {goal : Prop}
    (a : PySem.W.nsIn K mainGlobals x = some (some (.ref f))) (l : K.lookup f = some ⟨oc, od, .func (PySem.W.fnOf x x (defArgs st) (defBody st) (defScope st) .none kV doc pm an cdv ct), osl⟩) (c : PySem.W.codeIn K cdv x = true) (k : PySem.W.keepIn K (.ref f) = true)
    (n : DefAt K mg x st ps → goal) : goal := n (defAt_mk X G a l c k b)
theorem walk_ml {l : PySem.W.OpenLaw} {q : Program} {loose : List Str} {XP : (Str → Option Value) → Heap → Prop} {YP : World → Heap → Prop} {d : DefRec} {K : Params → PySem.W.Frag} {st : Stmt} {k : Nat} {F : FP} {x : Str} (hn : l.most = some 63) (hdf : d.params.defaults = []) (hr : Room k callerA)
    (hY : ∀ (w : World) (h : Heap), YP w h → (K w.params).In h)
    (hb : ∀ (kV doc pm : Value) (an : Option Addr) (cdv ct : Value) (u : Value), bindArgs (PySem.W.fnOf d.name d.name (defArgs st) (defBody st) (defScope st) .none kV doc pm an cdv ct) ⟨[u], []⟩ = pure [(x, u)])
    (hF : ∀ (w : World) (mg : Str → Option Value) (h : Heap), (K w.params).In h → h.Ns mainGlobals mg → DefAt (K w.params) mg d.name st [x] ∧
      ∀ base : Heap, (K w.params).In base → base.Ns mainGlobals mg → ∃ G : Gd, G.K = K w.params ∧ HasFn l.prog w G mg base d.name st [x] k (spP G 1 F))
    (hlaw : ∀ ns : List Int, ns.length ≤ 63 → F [.fl (ns.map P.int)] = .ok (.bl true)) :
    PySem.W.WalkO q loose XP YP l.row.toRowW d [] (fun f vs => PySem.call f vs) := by
  refine L2.walk_of (n := 63) (k := k) (x := x) (CX := fun w => L2.CX l.prog w) (sp := fun w => spLaw (K w.params)) hn (by decide) hdf hr hY (fun w mg fa h KX G hmg => ?_) (fun w H a ns hl hO hs => ⟨a, ns, rfl, hl, hO, hs, fun _ => rfl⟩) fun w H s e s' h => cx_end h
  obtain ⟨⟨f, fd, fn, hm, _⟩, hall⟩ := hF w mg h KX G
  rw [hmg] at hm
  cases hm
  have fn0 := fn
  obtain ⟨oc, od, kV, doc, pm, an, cdv, ct, osl, rfl, lk, hcd⟩ := fn.ex
  refine ⟨_, fun s u => .of_eq (hb kV doc pm an cdv ct u), fun base KB GB => ?_⟩
  obtain ⟨G', hG, f', fd', fn', ok, hm', _, _⟩ := hall base KB GB
  rw [hmg] at hm'
  cases hm'
  rw [hG] at fn' ok
  have e := fun_inj fn0 fn'
  rw [← e] at ok
  refine ok.imp fun vs H Q E h => ?_
  rw [← hG] at h
  exact law_sp hlaw h
end ML
set_option Elab.async false
set_option linter.all false
set_option maxRecDepth 100000
set_option maxHeartbeats 1000000
namespace ML
open PySem L2
section
variable {ρ : LEnv} {η : RH} {d a b : D} {ds : List D} {x y z : P} {xs ys : List P} {ma mb mc m mo me mi : EM} {am kam : AM} {ta tb t : TM} {s1 s2 : SM} {im : IM} {g g' : P → P → Option P} {h : P → Option P} {f : List P → Option P} {i n : Nat} {c : Bool}
def lookE (o : Option (Option D)) (η : RH) : Res D := match o with
  | some (some d) => .ok d η
  | _ => .bad
theorem e_name : nameM i ρ η = lookE ρ[i]? η := id rfl
theorem e_look : lookE (some (some d)) η = .ok d η := id rfl
theorem e_c : cM x ρ η = .ok (.p x) η := id rfl
theorem e_ofO : ofO (some x) η = .ok (.p x) η := id rfl
theorem e_ofOn : ofO none η = .bad := id rfl
theorem e_ofB : ofB (some c) η = .ok c η := id rfl
theorem e_ofL : ofL (some xs) η = .ok xs η := id rfl
def app1 (g : P → Option P) : Option P → Option P
  | some x => g x
  | none => none
def app2 (g : P → P → Option P) : Option P → Option P → Option P
  | some x, some y => g x y
  | _, _ => none
theorem app1_some : app1 h (some x) = h x := id rfl
theorem app2_some : app2 g (some x) (some y) = g x y := id rfl
def K2b (g : P → P → Option P) (a : D) : Res D → Res D
  | .ok b η => ofO (app2 g (view η a) (view η b)) η
  | .ex c xs η => .ex c xs η
  | .bad => .bad
def K2 (g : P → P → Option P) (mb : EM) (ρ : LEnv) : Res D → Res D
  | .ok a η => K2b g a (mb ρ η)
  | .ex c xs η => .ex c xs η
  | .bad => .bad
theorem e_op2 : op2 g ma mb ρ η = K2 g mb ρ (ma ρ η) := by
  unfold op2 K2
  cases ma ρ η with
  | ok a η1 =>
    simp only [Res.bind_ok]
    cases mb ρ η1 with
    | ok b η2 =>
      simp only [Res.bind_ok, K2b]
      cases view η2 a <;> cases view η2 b <;> rfl
    | _ => rfl
  | _ => rfl
theorem K2_ok : K2 g mb ρ (.ok a η) = K2b g a (mb ρ η) := id rfl
theorem K2b_ok : K2b g a (.ok b η) = ofO (app2 g (view η a) (view η b)) η := id rfl
def K1 (g : P → Option P) : Res D → Res D
  | .ok a η => ofO (app1 g (view η a)) η
  | .ex c xs η => .ex c xs η
  | .bad => .bad
theorem e_op1 : op1 h ma ρ η = K1 h (ma ρ η) := by
  unfold op1 K1
  cases ma ρ η with
  | ok a η1 => simp only [Res.bind_ok] <;> cases view η1 a <;> rfl
  | _ => rfl
theorem K1_ok : K1 h (.ok a η) = ofO (app1 h (view η a)) η := id rfl
theorem e_view : view η (.p x) = some x := id rfl
theorem e_viewr' : view η (.ref n) = viewO η[n]? := id rfl
theorem e_viewO : viewO (some (.ls xs)) = some (.fl xs) := id rfl
def KC2 (d : D) : Res (List D) → Res (List D)
  | .ok ds η => .ok (d :: ds) η
  | .ex c xs η => .ex c xs η
  | .bad => .bad
def KC (am : AM) (ρ : LEnv) : Res D → Res (List D)
  | .ok d η => KC2 d (am ρ η)
  | .ex c xs η => .ex c xs η
  | .bad => .bad
theorem e_nil : nilA ρ η = .ok [] η := id rfl
theorem e_cons : consA m am ρ η = KC am ρ (m ρ η) := by
  unfold consA KC KC2
  cases m ρ η with
  | ok d η1 => simp only [Res.bind_ok] <;> cases am ρ η1 <;> rfl
  | _ => rfl
theorem KC_ok : KC am ρ (.ok d η) = KC2 d (am ρ η) := id rfl
theorem KC2_ok : KC2 d (.ok ds η) = .ok (d :: ds) η := id rfl
def consO (x : P) : Option (List P) → Option (List P)
  | some xs => some (x :: xs)
  | none => none
def consOO : Option P → Option (List P) → Option (List P)
  | some x, some xs => some (x :: xs)
  | _, _ => none
theorem e_asPs0 : asPs [] = some [] := id rfl
theorem e_asPs : asPs (.p x :: ds) = consO x (asPs ds) := by
  show (asPs ds).map _ = _
  cases asPs ds <;> rfl
theorem consO_some : consO x (some xs) = some (x :: xs) := id rfl
theorem e_views0 : views η [] = some [] := id rfl
theorem e_views : views η (d :: ds) = consOO (view η d) (views η ds) := by
  show (view η d).bind _ = _
  cases view η d with
  | none => rfl
  | some x => simp only [Option.bind_some] <;> cases views η ds <;> rfl
theorem consOO_some : consOO (some x) (some xs) = some (x :: xs) := id rfl
def appL (f : List P → Option P) : Option (List P) → Option P
  | some xs => f xs
  | none => none
theorem appL_some : appL f (some xs) = f xs := id rfl
def KA (f : List P → Option P) : Res (List D) → Res D
  | .ok ds η => ofO (appL f (asPs ds)) η
  | .ex c xs η => .ex c xs η
  | .bad => .bad
theorem e_opA : opA f am ρ η = KA f (am ρ η) := by
  unfold opA KA
  cases am ρ η with
  | ok ds η1 => simp only [Res.bind_ok] <;> cases asPs ds <;> rfl
  | _ => rfl
theorem KA_ok : KA f (.ok ds η) = ofO (appL f (asPs ds)) η := id rfl
def KV' (f : List P → Option P) : Res (List D) → Res D
  | .ok ds η => ofO (appL f (views η ds)) η
  | .ex c xs η => .ex c xs η
  | .bad => .bad
theorem e_opV : opV f am ρ η = KV' f (am ρ η) := by
  unfold opV KV'
  cases am ρ η with
  | ok ds η1 => simp only [Res.bind_ok] <;> cases views η1 ds <;> rfl
  | _ => rfl
theorem KV_ok : KV' f (.ok ds η) = ofO (appL f (views η ds)) η := id rfl
def KT : Res D → Res Bool
  | .ok d η => ofB (asB d) η
  | .ex c xs η => .ex c xs η
  | .bad => .bad
theorem e_tst : tstM m ρ η = KT (m ρ η) := by unfold tstM KT; cases m ρ η <;> rfl
theorem KT_ok : KT (.ok d η) = ofB (asB d) η := id rfl
theorem e_asB : asB (.p (.bl c)) = some c := id rfl
def KAnd (tb : TM) (ρ : LEnv) : Res Bool → Res Bool
  | .ok true η => tb ρ η
  | .ok false η => .ok false η
  | .ex c xs η => .ex c xs η
  | .bad => .bad
def KOr (tb : TM) (ρ : LEnv) : Res Bool → Res Bool
  | .ok true η => .ok true η
  | .ok false η => tb ρ η
  | .ex c xs η => .ex c xs η
  | .bad => .bad
def KNot : Res Bool → Res Bool
  | .ok b η => .ok (!b) η
  | .ex c xs η => .ex c xs η
  | .bad => .bad
theorem e_and : andT ta tb ρ η = KAnd tb ρ (ta ρ η) := by
  unfold andT KAnd
  cases ta ρ η with
  | ok b η1 => cases b <;> rfl
  | _ => rfl
theorem e_or : orT ta tb ρ η = KOr tb ρ (ta ρ η) := by
  unfold orT KOr
  cases ta ρ η with
  | ok b η1 => cases b <;> rfl
  | _ => rfl
theorem e_not : notT ta ρ η = KNot (ta ρ η) := by unfold notT KNot; cases ta ρ η <;> rfl
theorem KAnd_t : KAnd tb ρ (.ok true η) = tb ρ η := id rfl
theorem KAnd_f : KAnd tb ρ (.ok false η) = .ok false η := id rfl
theorem KOr_t : KOr tb ρ (.ok true η) = .ok true η := id rfl
theorem KOr_f : KOr tb ρ (.ok false η) = tb ρ η := id rfl
theorem KNot_ok : KNot (.ok c η) = .ok (!c) η := id rfl
theorem e_yes : yesT ρ η = .ok true η := id rfl
def KAndV (mb : EM) (ρ : LEnv) : Res D → Res D
  | .ok (.p (.bl true)) η => mb ρ η
  | .ok (.p (.bl false)) η => .ok (.p (.bl false)) η
  | .ex c xs η => .ex c xs η
  | _ => .bad
def KNotV : Res D → Res D
  | .ok (.p (.bl b)) η => .ok (.p (.bl (!b))) η
  | .ex c xs η => .ex c xs η
  | _ => .bad
theorem e_andV : andV ma mb ρ η = KAndV mb ρ (ma ρ η) := by
  unfold andV
  cases ma ρ η with
  | ok d η1 =>
    cases d with
    | p x => cases x <;> first | rfl | skip
             rename_i b; cases b <;> rfl
    | ref n => rfl
    | xv c xs => rfl
  | _ => rfl
theorem e_notV : notV ma ρ η = KNotV (ma ρ η) := by
  unfold notV
  cases ma ρ η with
  | ok d η1 =>
    cases d with
    | p x => cases x <;> rfl
    | ref n => rfl
    | xv c xs => rfl
  | _ => rfl
theorem KAndV_t : KAndV mb ρ (.ok (.p (.bl true)) η) = mb ρ η := id rfl
theorem KAndV_f : KAndV mb ρ (.ok (.p (.bl false)) η) = .ok (.p (.bl false)) η := id rfl
theorem KNotV_ok : KNotV (.ok (.p (.bl c)) η) = .ok (.p (.bl (!c))) η := id rfl
def KCh3 (g' : P → P → Option P) (b : D) : Res D → Res D
  | .ok c η => ofO (app2 g' (view η b) (view η c)) η
  | .ex c xs η => .ex c xs η
  | .bad => .bad
def KChB (g' : P → P → Option P) (mc : EM) (ρ : LEnv) (b : D) (η : RH) : Option P → Res D
  | some (.bl true) => KCh3 g' b (mc ρ η)
  | some (.bl false) => .ok (.p (.bl false)) η
  | _ => .bad
def KCh2 (g g' : P → P → Option P) (mc : EM) (ρ : LEnv) (a : D) : Res D → Res D
  | .ok b η => KChB g' mc ρ b η (app2 g (view η a) (view η b))
  | .ex c xs η => .ex c xs η
  | .bad => .bad
def KCh (g g' : P → P → Option P) (mb mc : EM) (ρ : LEnv) : Res D → Res D
  | .ok a η => KCh2 g g' mc ρ a (mb ρ η)
  | .ex c xs η => .ex c xs η
  | .bad => .bad
theorem e_chain : chainM g g' ma mb mc ρ η = KCh g g' mb mc ρ (ma ρ η) := by
  unfold chainM KCh
  cases ma ρ η with
  | ok a η1 =>
    simp only [Res.bind_ok, KCh2]
    cases mb ρ η1 with
    | ok b η2 =>
      simp only [Res.bind_ok]
      cases ea : view η2 a with
      | none => rfl
      | some x =>
        cases eb : view η2 b with
        | none => rfl
        | some y =>
          simp only [Option.bind_some, app2]
          cases eg : g x y with
          | none => rfl
          | some z =>
            cases z <;> first | rfl | skip
            rename_i tt
            cases tt with
            | false => rfl
            | true =>
              show ((ofB (some true) η2).bind fun t η => if t = true then (mc ρ η).bind fun c η => ofO ((view η b).bind fun y => (view η c).bind (g' y)) η else .ok (.p (.bl false)) η) = KCh3 g' b (mc ρ η2)
              rw [ofB, Res.bind_ok, if_pos rfl]
              cases mc ρ η2 with
              | ok e η3 => simp only [Res.bind_ok, KCh3]; cases view η3 b <;> cases view η3 e <;> rfl
              | _ => rfl
    | _ => rfl
  | _ => rfl
theorem KCh_ok : KCh g g' mb mc ρ (.ok a η) = KCh2 g g' mc ρ a (mb ρ η) := id rfl
theorem KCh2_ok : KCh2 g g' mc ρ a (.ok b η) = KChB g' mc ρ b η (app2 g (view η a) (view η b)) := id rfl
theorem KChB_t : KChB g' mc ρ b η (some (.bl true)) = KCh3 g' b (mc ρ η) := id rfl
theorem KChB_f : KChB g' mc ρ b η (some (.bl false)) = .ok (.p (.bl false)) η := id rfl
theorem KCh3_ok : KCh3 g' b (.ok a η) = ofO (app2 g' (view η b) (view η a)) η := id rfl
def isiP (T : String) : Option P → Option P
  | some (.fi _ _) => none
  | some x => (kitB (tyP x) T).map P.bl
  | none => none
def KIsi (T : String) : Res D → Res D
  | .ok d η => ofO (isiP T (view η d)) η
  | .ex c xs η => .ex c xs η
  | .bad => .bad
theorem e_isi {T : String} : isiT T m ρ η = KIsi T (m ρ η) := by
  unfold isiT KIsi
  cases m ρ η with
  | ok d η1 =>
    simp only [Res.bind_ok]
    cases view η1 d with
    | none => rfl
    | some x => cases x <;> rfl
  | _ => rfl
theorem KIsi_ok {T : String} : KIsi T (.ok d η) = ofO (isiP T (view η d)) η := id rfl
def isK (T : String) (x : P) : Bool := match x with
  | .non => false
  | .bl _ => T == "bool" || T == "int"
  | .int _ => T == "int"
  | .str _ => T == "str"
  | .tup _ => T == "tuple"
  | .fl _ => T == "list"
  | .fi _ _ => false
def plainP : P → Bool
  | .fi _ _ => false
  | _ => true
theorem kt_NoneType_tuple : kitB "NoneType" "tuple" = some false := by decide +kernel
theorem kt_bool_tuple : kitB "bool" "tuple" = some false := by decide +kernel
theorem kt_int_tuple : kitB "int" "tuple" = some false := by decide +kernel
theorem kt_str_tuple : kitB "str" "tuple" = some false := by decide +kernel
theorem kt_tuple_tuple : kitB "tuple" "tuple" = some true := by decide +kernel
theorem kt_list_tuple : kitB "list" "tuple" = some false := by decide +kernel
theorem isi_tuple (h : plainP x = true) : isiP "tuple" (some x) = some (.bl (isK "tuple" x)) := by
  cases x with
  | non => exact congrArg (Option.map P.bl) kt_NoneType_tuple
  | bl b => exact congrArg (Option.map P.bl) kt_bool_tuple
  | int i => exact congrArg (Option.map P.bl) kt_int_tuple
  | str s => exact congrArg (Option.map P.bl) kt_str_tuple
  | tup xs => exact congrArg (Option.map P.bl) kt_tuple_tuple
  | fl xs => exact congrArg (Option.map P.bl) kt_list_tuple
  | fi c xs => exact nomatch h
theorem kt_NoneType_list : kitB "NoneType" "list" = some false := by decide +kernel
theorem kt_bool_list : kitB "bool" "list" = some false := by decide +kernel
theorem kt_int_list : kitB "int" "list" = some false := by decide +kernel
theorem kt_str_list : kitB "str" "list" = some false := by decide +kernel
theorem kt_tuple_list : kitB "tuple" "list" = some false := by decide +kernel
theorem kt_list_list : kitB "list" "list" = some true := by decide +kernel
theorem isi_list (h : plainP x = true) : isiP "list" (some x) = some (.bl (isK "list" x)) := by
  cases x with
  | non => exact congrArg (Option.map P.bl) kt_NoneType_list
  | bl b => exact congrArg (Option.map P.bl) kt_bool_list
  | int i => exact congrArg (Option.map P.bl) kt_int_list
  | str s => exact congrArg (Option.map P.bl) kt_str_list
  | tup xs => exact congrArg (Option.map P.bl) kt_tuple_list
  | fl xs => exact congrArg (Option.map P.bl) kt_list_list
  | fi c xs => exact nomatch h
theorem kt_NoneType_int : kitB "NoneType" "int" = some false := by decide +kernel
theorem kt_bool_int : kitB "bool" "int" = some true := by decide +kernel
theorem kt_int_int : kitB "int" "int" = some true := by decide +kernel
theorem kt_str_int : kitB "str" "int" = some false := by decide +kernel
theorem kt_tuple_int : kitB "tuple" "int" = some false := by decide +kernel
theorem kt_list_int : kitB "list" "int" = some false := by decide +kernel
theorem isi_int (h : plainP x = true) : isiP "int" (some x) = some (.bl (isK "int" x)) := by
  cases x with
  | non => exact congrArg (Option.map P.bl) kt_NoneType_int
  | bl b => exact congrArg (Option.map P.bl) kt_bool_int
  | int i => exact congrArg (Option.map P.bl) kt_int_int
  | str s => exact congrArg (Option.map P.bl) kt_str_int
  | tup xs => exact congrArg (Option.map P.bl) kt_tuple_int
  | fl xs => exact congrArg (Option.map P.bl) kt_list_int
  | fi c xs => exact nomatch h
theorem kt_NoneType_bool : kitB "NoneType" "bool" = some false := by decide +kernel
theorem kt_bool_bool : kitB "bool" "bool" = some true := by decide +kernel
theorem kt_int_bool : kitB "int" "bool" = some false := by decide +kernel
theorem kt_str_bool : kitB "str" "bool" = some false := by decide +kernel
theorem kt_tuple_bool : kitB "tuple" "bool" = some false := by decide +kernel
theorem kt_list_bool : kitB "list" "bool" = some false := by decide +kernel
theorem isi_bool (h : plainP x = true) : isiP "bool" (some x) = some (.bl (isK "bool" x)) := by
  cases x with
  | non => exact congrArg (Option.map P.bl) kt_NoneType_bool
  | bl b => exact congrArg (Option.map P.bl) kt_bool_bool
  | int i => exact congrArg (Option.map P.bl) kt_int_bool
  | str s => exact congrArg (Option.map P.bl) kt_str_bool
  | tup xs => exact congrArg (Option.map P.bl) kt_tuple_bool
  | fl xs => exact congrArg (Option.map P.bl) kt_list_bool
  | fi c xs => exact nomatch h
theorem kt_NoneType_str : kitB "NoneType" "str" = some false := by decide +kernel
theorem kt_bool_str : kitB "bool" "str" = some false := by decide +kernel
theorem kt_int_str : kitB "int" "str" = some false := by decide +kernel
theorem kt_str_str : kitB "str" "str" = some true := by decide +kernel
theorem kt_tuple_str : kitB "tuple" "str" = some false := by decide +kernel
theorem kt_list_str : kitB "list" "str" = some false := by decide +kernel
theorem isi_str (h : plainP x = true) : isiP "str" (some x) = some (.bl (isK "str" x)) := by
  cases x with
  | non => exact congrArg (Option.map P.bl) kt_NoneType_str
  | bl b => exact congrArg (Option.map P.bl) kt_bool_str
  | int i => exact congrArg (Option.map P.bl) kt_int_str
  | str s => exact congrArg (Option.map P.bl) kt_str_str
  | tup xs => exact congrArg (Option.map P.bl) kt_tuple_str
  | fl xs => exact congrArg (Option.map P.bl) kt_list_str
  | fi c xs => exact nomatch h
def retR (r : PRes) (η : RH) : Res D := match r with
  | .ok x => .ok (.p x) η
  | .ex c ys => .ex c ys η
  | .bad => .bad
def callR (F : FP) (o : Option (List P)) (η : RH) : Res D := match o with
  | some xs => retR (F xs) η
  | none => .bad
def KCall (F : FP) : Res (List D) → Res D
  | .ok ds η => callR F (asPs ds) η
  | .ex c xs η => .ex c xs η
  | .bad => .bad
theorem e_call {F : FP} : callP F am ρ η = KCall F (am ρ η) := by
  unfold callP KCall
  cases am ρ η with
  | ok ds η1 => simp only [Res.bind_ok, callR] <;> cases asPs ds <;> rfl
  | _ => rfl
theorem KCall_ok {F : FP} : KCall F (.ok ds η) = callR F (asPs ds) η := id rfl
theorem callR_some {F : FP} : callR F (some xs) η = retR (F xs) η := id rfl
theorem retR_ok : retR (.ok x) η = .ok (.p x) η := id rfl
theorem retR_ex {c : Nat} : retR (.ex c ys) η = .ex c ys η := id rfl
def mthR (f : RH → Nat → Ob → List D → Res D) (o : Option (Nat × Ob)) (ds : List D) (η : RH) : Res D := match o with
  | some x => f η x.1 x.2 ds
  | none => .bad
def KM2 (f : RH → Nat → Ob → List D → Res D) (d : D) : Res (List D) → Res D
  | .ok ds η => mthR f (own η d) ds η
  | .ex c xs η => .ex c xs η
  | .bad => .bad
def tyO (ty : Ob → Bool) : Option (Nat × Ob) → Bool
  | some x => ty x.2
  | none => false
def KM1 (f : RH → Nat → Ob → List D → Res D) (am : AM) (ρ : LEnv) (d : D) (η : RH) : Bool → Res D
  | true => KM2 f d (am ρ η)
  | false => .bad
def KM (ty : Ob → Bool) (f : RH → Nat → Ob → List D → Res D) (am : AM) (ρ : LEnv) : Res D → Res D
  | .ok d η => KM1 f am ρ d η (tyO ty (own η d))
  | .ex c xs η => .ex c xs η
  | .bad => .bad
theorem e_mth {ty : Ob → Bool} {f : RH → Nat → Ob → List D → Res D} : mthM ty f mo am ρ η = KM ty f am ρ (mo ρ η) := by
  unfold mthM KM
  cases mo ρ η with
  | ok d η1 =>
    simp only [Res.bind_ok]
    cases eo : own η1 d with
    | none => rfl
    | some x =>
      by_cases ht : ty x.2 = true
      · refine (if_pos ht).trans ?_
        simp only [tyO, ht, KM1]
        cases am ρ η1 with
        | ok ds η2 => simp only [Res.bind_ok, KM2, mthR] <;> cases own η2 d <;> rfl
        | _ => rfl
      · refine (if_neg ht).trans ?_
        simp only [tyO, Bool.eq_false_iff.mpr ht, KM1]
  | _ => rfl
theorem KM_ok {ty : Ob → Bool} {f : RH → Nat → Ob → List D → Res D} : KM ty f am ρ (.ok d η) = KM1 f am ρ d η (tyO ty (own η d)) := id rfl
theorem KM1_t {f : RH → Nat → Ob → List D → Res D} : KM1 f am ρ d η true = KM2 f d (am ρ η) := id rfl
theorem KM2_ok {f : RH → Nat → Ob → List D → Res D} : KM2 f d (.ok ds η) = mthR f (own η d) ds η := id rfl
theorem mthR_some {f : RH → Nat → Ob → List D → Res D} {ob : Ob} : mthR f (some (n, ob)) ds η = f η n ob ds := id rfl
theorem tyO_some {ty : Ob → Bool} {ob : Ob} : tyO ty (some (n, ob)) = ty ob := id rfl
def ownO (n : Nat) : Option Ob → Option (Nat × Ob)
  | some o => some (n, o)
  | none => none
theorem e_own : own η (.ref n) = ownO n η[n]? := by
  show η[n]?.map _ = _
  cases η[n]? <;> rfl
theorem ownO_some {o : Ob} : ownO n (some o) = some (n, o) := id rfl
theorem e_isLs : isLs (.ls xs) = true := id rfl
theorem e_isLr {ns : List Nat} : isLs (.lr ns) = true := id rfl
def newR (xs : Option (List P)) (η : RH) : Res D := match xs with
  | some xs => if xs.length ≤ 60 then .ok (.ref η.length) (η ++ [.ls xs]) else .bad
  | none => .bad
def KLs : Res (List D) → Res D
  | .ok ds η => newR (asPs ds) η
  | .ex c xs η => .ex c xs η
  | .bad => .bad
theorem e_ls : lsO am ρ η = KLs (am ρ η) := by unfold lsO KLs; cases am ρ η <;> rfl
theorem KLs_ok : KLs (.ok ds η) = newR (asPs ds) η := id rfl
def KSet (i : Nat) (ρ : LEnv) : Res D → SRes
  | .ok d η => .nx (ρ.set i (some d)) η
  | .ex c xs η => .ex c xs ρ η
  | .bad => .bad
theorem e_set : setS i m ρ η = KSet i ρ (m ρ η) := by unfold setS ResS KSet; cases m ρ η <;> rfl
theorem KSet_ok : KSet i ρ (.ok d η) = .nx (ρ.set i (some d)) η := id rfl
theorem KSet_ex {k : Nat} : KSet i ρ (.ex k xs η) = .ex k xs ρ η := id rfl
def KRet (ρ : LEnv) : Res D → SRes
  | .ok d η => .rt d η
  | .ex c xs η => .ex c xs ρ η
  | .bad => .bad
theorem e_ret : retS m ρ η = KRet ρ (m ρ η) := by unfold retS ResS KRet; cases m ρ η <;> rfl
theorem KRet_ok : KRet ρ (.ok d η) = .rt d η := id rfl
theorem KRet_ex {k : Nat} : KRet ρ (.ex k xs η) = .ex k xs ρ η := id rfl
def KExp (ρ : LEnv) : Res D → SRes
  | .ok d η => .nx ρ η
  | .ex c xs η => .ex c xs ρ η
  | .bad => .bad
theorem e_exp : exprS m ρ η = KExp ρ (m ρ η) := by unfold exprS ResS KExp; cases m ρ η <;> rfl
theorem KExp_ok : KExp ρ (.ok d η) = .nx ρ η := id rfl
theorem KExp_ex {k : Nat} : KExp ρ (.ex k xs η) = .ex k xs ρ η := id rfl
def asgR (o : Option LEnv) (η : RH) : SRes := match o with
  | some ρ => .nx ρ η
  | none => .bad
def KAsg (t : Tg) (ρ : LEnv) : Res D → SRes
  | .ok d η => asgR (tgS t d ρ) η
  | .ex c xs η => .ex c xs ρ η
  | .bad => .bad
theorem e_asg {t : Tg} : asgS t m ρ η = KAsg t ρ (m ρ η) := by unfold asgS ResS KAsg; cases m ρ η <;> rfl
theorem KAsg_ok {t : Tg} : KAsg t ρ (.ok d η) = asgR (tgS t d ρ) η := id rfl
theorem asgR_some : asgR (some ρ) η = .nx ρ η := id rfl
theorem e_aug : augS i g m ρ η = KAsg (.nm i) ρ (op2 g (nameM i) m ρ η) := e_asg
def KIfS (s1 s2 : SM) (ρ : LEnv) : Res Bool → SRes
  | .ok true η => s1 ρ η
  | .ok false η => s2 ρ η
  | .ex c xs η => .ex c xs ρ η
  | .bad => .bad
theorem e_if : ifS t s1 s2 ρ η = KIfS s1 s2 ρ (t ρ η) := by
  unfold ifS ResB KIfS
  cases t ρ η with
  | ok b η1 => cases b <;> rfl
  | _ => rfl
theorem KIfS_t : KIfS s1 s2 ρ (.ok true η) = s1 ρ η := id rfl
theorem KIfS_f : KIfS s1 s2 ρ (.ok false η) = s2 ρ η := id rfl
def KSeq (s2 : SM) : SRes → SRes
  | .nx ρ η => s2 ρ η
  | r => r
theorem e_seq : seqS s1 s2 ρ η = KSeq s2 (s1 ρ η) := id rfl
theorem KSeq_nx : KSeq s2 (.nx ρ η) = s2 ρ η := id rfl
theorem KSeq_rt : KSeq s2 (.rt d η) = .rt d η := id rfl
theorem KSeq_ct : KSeq s2 (.ct ρ η) = .ct ρ η := id rfl
theorem KSeq_bk : KSeq s2 (.bk ρ η) = .bk ρ η := id rfl
theorem KSeq_ex {k : Nat} : KSeq s2 (.ex k xs ρ η) = .ex k xs ρ η := id rfl
theorem e_pass : passS ρ η = .nx ρ η := id rfl
theorem e_cnt : cntS ρ η = .ct ρ η := id rfl
def stoR (ρ : LEnv) : Option RH → SRes
  | some η => .nx ρ η
  | none => .bad
def KSto3 (ρ : LEnv) (y d : D) : Res D → SRes
  | .ok i η => stoR ρ (stoF η d i y)
  | .ex c xs η => .ex c xs ρ η
  | .bad => .bad
def KSto2 (mi : EM) (ρ : LEnv) (y : D) : Res D → SRes
  | .ok d η => KSto3 ρ y d (mi ρ η)
  | .ex c xs η => .ex c xs ρ η
  | .bad => .bad
def KSto (mo mi : EM) (ρ : LEnv) : Res D → SRes
  | .ok y η => KSto2 mi ρ y (mo ρ η)
  | .ex c xs η => .ex c xs ρ η
  | .bad => .bad
theorem e_sto : stoS mo mi me ρ η = KSto mo mi ρ (me ρ η) := by
  unfold stoS ResS KSto
  cases me ρ η with
  | ok y η1 =>
    simp only [KSto2]
    cases mo ρ η1 with
    | ok d η2 =>
      simp only [KSto3]
      cases mi ρ η2 with
      | ok i η3 => simp only [stoR] <;> cases stoF η3 d i y <;> rfl
      | _ => rfl
    | _ => rfl
  | _ => rfl
theorem KSto_ok : KSto mo mi ρ (.ok d η) = KSto2 mi ρ d (mo ρ η) := id rfl
theorem KSto2_ok : KSto2 mi ρ a (.ok d η) = KSto3 ρ a d (mi ρ η) := id rfl
theorem KSto3_ok {j : D} : KSto3 ρ a d (.ok j η) = stoR ρ (stoF η d j a) := id rfl
theorem stoR_some : stoR ρ (some η) = .nx ρ η := id rfl
def stoG (η : RH) (n : Nat) : Ob → Option P → D → Option RH
  | .ls xs, some (.int j), .p v => (ixN xs.length j).map fun t => η.set n (.ls (xs.set t v))
  | .lr ns, some (.int j), .ref r => (ixN ns.length j).map fun t => η.set n (.lr (ns.set t r))
  | _, _, _ => none
theorem e_stoF {o : Ob} {j : D} (h : η[n]? = some o) : stoF η (.ref n) j a = stoG η n o (view η j) a := by
  unfold stoF
  rw [e_own, h, ownO_some]
  cases o <;> cases view η j <;> cases a <;> first | rfl | (rename_i y _; cases y <;> rfl) | (rename_i y; cases y <;> rfl) | (rename_i y _ _; cases y <;> rfl)
def seqD : D → Option (List P)
  | .p x => seqP x
  | .ref _ => none
  | .xv _ _ => none
def KIt : Res D → Res (List P)
  | .ok d η => ofL (seqD d) η
  | .ex c xs η => .ex c xs η
  | .bad => .bad
theorem e_iter : iterM m ρ η = KIt (m ρ η) := by
  unfold iterM KIt
  cases m ρ η with
  | ok d η1 => cases d <;> rfl
  | _ => rfl
theorem KIt_ok : KIt (.ok (.p x) η) = ofL (seqP x) η := id rfl
theorem seq_fl : seqP (.fl xs) = some xs := id rfl
theorem seq_tup : seqP (.tup xs) = some xs := id rfl
def appLL (f : List P → Option (List P)) : Option (List P) → Option (List P)
  | some xs => f xs
  | none => none
theorem appLL_some {f : List P → Option (List P)} : appLL f (some xs) = f xs := id rfl
def KItA (f : List P → Option (List P)) : Res (List D) → Res (List P)
  | .ok ds η => ofL (appLL f (asPs ds)) η
  | .ex c xs η => .ex c xs η
  | .bad => .bad
theorem e_itA {f : List P → Option (List P)} : itA f am ρ η = KItA f (am ρ η) := by
  unfold itA KItA
  cases am ρ η with
  | ok ds η1 => simp only [Res.bind_ok] <;> cases asPs ds <;> rfl
  | _ => rfl
theorem KItA_ok {f : List P → Option (List P)} : KItA f (.ok ds η) = ofL (appLL f (asPs ds)) η := id rfl
def KFor (t : Tg) (b : SM) (ρ : LEnv) : Res (List P) → SRes
  | .ok xs η => forL t b xs ρ η
  | .ex c xs η => .ex c xs ρ η
  | .bad => .bad
theorem e_for {t : Tg} {b : SM} : forS im t b ρ η = KFor t b ρ (im ρ η) := by unfold forS ResI KFor; cases im ρ η <;> rfl
theorem KFor_ok {t : Tg} {b : SM} : KFor t b ρ (.ok xs η) = forL t b xs ρ η := id rfl
def forK (t : Tg) (b : SM) (xs : List P) : SRes → SRes
  | .nx ρ η => forL t b xs ρ η
  | .ct ρ η => forL t b xs ρ η
  | .bk ρ η => .nx ρ η
  | r => r
def forB (t : Tg) (b : SM) (xs : List P) (o : Option LEnv) (η : RH) : SRes := match o with
  | some ρ => forK t b xs (b ρ η)
  | none => .bad
theorem forL_cons {t : Tg} {b : SM} : forL t b (x :: xs) ρ η = forB t b xs (tgS t (.p x) ρ) η := by
  unfold forL forB
  cases tgS t (.p x) ρ with
  | none => rfl
  | some ρ1 => simp only [forK] <;> cases b ρ1 η <;> rfl
theorem forB_some {t : Tg} {b : SM} : forB t b xs (some ρ) η = forK t b xs (b ρ η) := id rfl
theorem forK_nx {t : Tg} {b : SM} : forK t b xs (.nx ρ η) = forL t b xs ρ η := id rfl
theorem forK_ct {t : Tg} {b : SM} : forK t b xs (.ct ρ η) = forL t b xs ρ η := id rfl
theorem forK_bk {t : Tg} {b : SM} : forK t b xs (.bk ρ η) = .nx ρ η := id rfl
theorem forK_rt {t : Tg} {b : SM} : forK t b xs (.rt d η) = .rt d η := id rfl
def cmpR : Res (List P) → Res D
  | .ok ys η => .ok (.p (.fl ys)) η
  | _ => .bad
def KComp (t : Tg) (tt : TM) (te : EM) (ρ0 : LEnv) : Res (List P) → Res D
  | .ok xs η => if xs.length ≤ sizeLine then cmpR (compL t tt te ρ0 xs η) else .bad
  | .ex c xs η => .ex c xs η
  | .bad => .bad
theorem e_comp {t : Tg} {tt : TM} {te : EM} {vs : List Nat} : compM im t tt te vs ρ η = KComp t tt te (wipeE ρ vs) (im ρ η) := by
  unfold compM KComp
  cases im ρ η with
  | ok xs η1 =>
    simp only [Res.bind_ok]
    split
    · cases compL t tt te (wipeE ρ vs) xs η1 <;> rfl
    · rfl
  | _ => rfl
theorem KComp_ok {t : Tg} {tt : TM} {te : EM} (h : xs.length ≤ sizeLine) : KComp t tt te ρ (.ok xs η) = cmpR (compL t tt te ρ xs η) := if_pos h
theorem cmpR_ok : cmpR (.ok ys η) = .ok (.p (.fl ys)) η := id rfl
def cmpRO : Res (List P) → Res D
  | .ok ys η => .ok (.ref η.length) (η ++ [.ls ys])
  | _ => .bad
def KCompO (t : Tg) (tt : TM) (te : EM) (ρ0 : LEnv) : Res (List P) → Res D
  | .ok xs η => if xs.length ≤ sizeLine then cmpRO (compL t tt te ρ0 xs η) else .bad
  | .ex c xs η => .ex c xs η
  | .bad => .bad
theorem e_compO {t : Tg} {tt : TM} {te : EM} {vs : List Nat} : compO im t tt te vs ρ η = KCompO t tt te (wipeE ρ vs) (im ρ η) := by
  unfold compO KCompO
  cases im ρ η with
  | ok xs η1 =>
    simp only [Res.bind_ok]
    split
    · cases compL t tt te (wipeE ρ vs) xs η1 <;> rfl
    · rfl
  | _ => rfl
theorem KCompO_ok {t : Tg} {tt : TM} {te : EM} (h : xs.length ≤ sizeLine) : KCompO t tt te ρ (.ok xs η) = cmpRO (compL t tt te ρ xs η) := if_pos h
theorem cmpRO_ok : cmpRO (.ok ys η) = .ok (.ref η.length) (η ++ [.ls ys]) := id rfl
def cons1 (y : P) : Res (List P) → Res (List P)
  | .ok ys η => .ok (y :: ys) η
  | .ex c xs η => .ex c xs η
  | .bad => .bad
def compE (t : Tg) (tt : TM) (te : EM) (ρ0 : LEnv) (xs : List P) : Res D → Res (List P)
  | .ok (.p y) η => cons1 y (compL t tt te ρ0 xs η)
  | .ex c xs η => .ex c xs η
  | _ => .bad
def compT (t : Tg) (tt : TM) (te : EM) (ρ0 : LEnv) (xs : List P) (ρ : LEnv) : Res Bool → Res (List P)
  | .ok true η => compE t tt te ρ0 xs (te ρ η)
  | .ok false η => compL t tt te ρ0 xs η
  | .ex c xs η => .ex c xs η
  | .bad => .bad
def compB (t : Tg) (tt : TM) (te : EM) (ρ0 : LEnv) (xs : List P) (o : Option LEnv) (η : RH) : Res (List P) := match o with
  | some ρ => compT t tt te ρ0 xs ρ (tt ρ η)
  | none => .bad
theorem compL_cons {t : Tg} {tt : TM} {te : EM} {ρ0 : LEnv} : compL t tt te ρ0 (x :: xs) η = compB t tt te ρ0 xs (tgS t (.p x) ρ0) η := by
  rw [compL]
  unfold compB
  cases tgS t (.p x) ρ0 with
  | none => rfl
  | some ρ1 =>
    simp only
    cases tt ρ1 η with
    | ok b η1 =>
      cases b with
      | false => rfl
      | true =>
        simp only [Res.bind_ok, if_true, compT]
        cases te ρ1 η1 with
        | ok d η2 =>
          cases d with
          | p y => simp only [Res.bind_ok, asP, compE] <;> cases compL t tt te ρ0 xs η2 <;> rfl
          | ref n => rfl
          | xv c xs => rfl
        | _ => rfl
    | _ => rfl
theorem compB_some {t : Tg} {tt : TM} {te : EM} {ρ0 : LEnv} : compB t tt te ρ0 xs (some ρ) η = compT t tt te ρ0 xs ρ (tt ρ η) := id rfl
theorem compT_t {t : Tg} {tt : TM} {te : EM} {ρ0 : LEnv} : compT t tt te ρ0 xs ρ (.ok true η) = compE t tt te ρ0 xs (te ρ η) := id rfl
theorem compT_f {t : Tg} {tt : TM} {te : EM} {ρ0 : LEnv} : compT t tt te ρ0 xs ρ (.ok false η) = compL t tt te ρ0 xs η := id rfl
theorem compE_ok {t : Tg} {tt : TM} {te : EM} {ρ0 : LEnv} : compE t tt te ρ0 xs (.ok (.p y) η) = cons1 y (compL t tt te ρ0 xs η) := id rfl
theorem cons1_ok : cons1 y (.ok ys η) = .ok (y :: ys) η := id rfl
theorem e_tgn {i : Nat} : tgS (.nm i) d ρ = some (ρ.set i (some d)) := by unfold tgS; rfl
theorem e_tgt {ts : List Tg} : tgS (.tp ts) (.p (.tup xs)) ρ = tgsS ts xs ρ := by unfold tgS; rfl
theorem e_tgs0 : tgsS [] [] ρ = some ρ := by unfold tgsS; rfl
def tgK (ts : List Tg) (xs : List P) : Option LEnv → Option LEnv
  | some ρ => tgsS ts xs ρ
  | none => none
theorem e_tgs {t : Tg} {ts : List Tg} : tgsS (t :: ts) (x :: xs) ρ = tgK ts xs (tgS t (.p x) ρ) := by
  rw [tgsS]
  cases tgS t (.p x) ρ <;> rfl
theorem tgK_some {ts : List Tg} : tgK ts xs (some ρ) = tgsS ts xs ρ := id rfl
def fnR : SRes → PRes
  | .nx _ _ => .ok .non
  | .rt d η => retP η d
  | .ex c ys _ _ => .ex c ys
  | _ => .bad
theorem e_fnP {s : SM} : fnP n s xs = fnR (s (startP n xs) []) := by unfold fnP fnR; cases s (startP n xs) [] <;> rfl
theorem fnR_nx : fnR (.nx ρ η) = .ok .non := id rfl
theorem fnR_rt : fnR (.rt d η) = retP η d := id rfl
theorem fnR_ex {k : Nat} : fnR (.ex k ys ρ η) = .ex k ys := id rfl
theorem retP_p : retP η (.p x) = .ok x := id rfl
def fnRS : SRes → Res D
  | .nx _ η => .ok (.p .non) η
  | .rt d η => .ok d η
  | .ex c ys _ η => .ex c ys η
  | _ => .bad
theorem e_fnS {s : SM} : fnS n s ds η = fnRS (s (startD n ds) η) := by unfold fnS fnRS; cases s (startD n ds) η <;> rfl
theorem fnRS_nx : fnRS (.nx ρ η) = .ok (.p .non) η := id rfl
theorem fnRS_rt : fnRS (.rt d η) = .ok d η := id rfl
theorem fnRS_ex {k : Nat} : fnRS (.ex k ys ρ η) = .ex k ys η := id rfl
theorem g_addI {i j : Int} : addG (.int i) (.int j) = some (.int (i + j)) := id rfl
theorem g_subI {i j : Int} : subI (.int i) (.int j) = some (.int (i - j)) := id rfl
theorem g_negI {i : Int} : negI (.int i) = some (.int (-i)) := id rfl
theorem g_lt {i j : Int} : ltI (.int i) (.int j) = some (.bl (decide (i < j))) := id rfl
theorem g_le {i j : Int} : leI (.int i) (.int j) = some (.bl (decide (i ≤ j))) := id rfl
theorem g_gt {i j : Int} : gtI (.int i) (.int j) = some (.bl (decide (j < i))) := id rfl
theorem g_ge {i j : Int} : geI (.int i) (.int j) = some (.bl (decide (j ≤ i))) := id rfl
theorem g_mod {i j : Int} (h : 0 < j) : modI (.int i) (.int j) = some (.int (i % j)) := if_pos h
theorem g_fdiv {i j : Int} (h : 0 < j ∧ j < 1073741824) : fdivI (.int i) (.int j) = some (.int (i / j)) := if_pos h
theorem g_mul {i j : Int} (h : (-(2 ^ 64) < i ∧ i < 2 ^ 64) ∨ (-(2 ^ 64) < j ∧ j < 2 ^ 64)) : mulI (.int i) (.int j) = some (.int (i * j)) := if_pos h
theorem g_int {i : Int} : intG [.int i] = some (.int i) := id rfl
theorem g_lenf : lenG [.fl xs] = some (.int xs.length) := id rfl
theorem g_lent : lenG [.tup xs] = some (.int xs.length) := id rfl
theorem g_tupf : tupleG [.fl xs] = some (.tup xs) := id rfl
theorem g_tupt : tupleG [.tup xs] = some (.tup xs) := id rfl
theorem g_abs {i : Int} : absG [.int i] = some (.int (if i < 0 then -i else i)) := id rfl
theorem g_isN : isN x .non = some (.bl (isNon x)) := id rfl
theorem g_ixf {i : Int} : gIx (.fl xs) (.int i) = atI xs i := id rfl
theorem g_ixt {i : Int} : gIx (.tup xs) (.int i) = atI xs i := id rfl
theorem g_en : enG [.fl xs] = some (enumP 0 xs) := id rfl
theorem g_ent : enG [.tup xs] = some (enumP 0 xs) := id rfl
theorem g_rng1 {j : Int} (h : -(2 ^ 62) ≤ j ∧ j < 2 ^ 62) : rngG1 [.int j] = some (rangeP 0 j.toNat) := if_pos h
theorem g_rng2 {i j : Int} (h : -(2 ^ 62) ≤ i ∧ i < 2 ^ 62 ∧ -(2 ^ 62) ≤ j ∧ j < 2 ^ 62) : rngG2 [.int i, .int j] = some (rangeP i (j - i).toNat) := if_pos h
theorem atI_nat' {α : Type} {l : List α} {j : Nat} {v : α} (h : l[j]? = some v) : atI l (j : Int) = some v := atI_nat h
end
def takeV (ds : List Int) (at' : Nat) (m : Int) : Int := match ds[at']? with
  | some d => d / 7 % m
  | none => 0
def hand (ds : List Int) (at' : Nat) : Ob := .ls [.fl (ds.map .int), .int at']
end ML
set_option Elab.async false
set_option linter.all false
set_option maxRecDepth 100000
set_option maxHeartbeats 1000000
namespace ML
open PySem L2
section
variable {F : FP} {FF : FS} {x x1 x2 x3 x4 x5 : P} {d d1 d2 d3 d4 d5 : D} {η : RH} {n i : Nat} {xs : List P}
theorem ar0 : arity 0 F [] = F [] := id rfl
theorem ar1 : arity 1 F [x] = F [x] := id rfl
theorem ar2 : arity 2 F [x, x1] = F [x, x1] := id rfl
theorem ar3 : arity 3 F [x, x1, x2] = F [x, x1, x2] := id rfl
theorem ar4 : arity 4 F [x, x1, x2, x3] = F [x, x1, x2, x3] := id rfl
theorem ar5 : arity 5 F [x, x1, x2, x3, x4] = F [x, x1, x2, x3, x4] := id rfl
theorem as0 : arityS 0 FF [] η = FF [] η := id rfl
theorem as1 : arityS 1 FF [d] η = FF [d] η := id rfl
theorem as2 : arityS 2 FF [d, d1] η = FF [d, d1] η := id rfl
theorem as3 : arityS 3 FF [d, d1, d2] η = FF [d, d1, d2] η := id rfl
theorem as4 : arityS 4 FF [d, d1, d2, d3] η = FF [d, d1, d2, d3] η := id rfl
theorem as5 : arityS 5 FF [d, d1, d2, d3, d4] η = FF [d, d1, d2, d3, d4] η := id rfl
theorem tp60_0 : tupG [] = some (.tup []) := id rfl
theorem tp60_1 : tupG [x] = some (.tup [x]) := id rfl
theorem tp60_2 : tupG [x, x1] = some (.tup [x, x1]) := id rfl
theorem tp60_3 : tupG [x, x1, x2] = some (.tup [x, x1, x2]) := id rfl
theorem tp60_4 : tupG [x, x1, x2, x3] = some (.tup [x, x1, x2, x3]) := id rfl
theorem tp60_5 : tupG [x, x1, x2, x3, x4] = some (.tup [x, x1, x2, x3, x4]) := id rfl
theorem fl60_0 : flG [] = some (.fl []) := id rfl
theorem fl60_1 : flG [x] = some (.fl [x]) := id rfl
theorem fl60_2 : flG [x, x1] = some (.fl [x, x1]) := id rfl
theorem fl60_3 : flG [x, x1, x2] = some (.fl [x, x1, x2]) := id rfl
theorem fl60_4 : flG [x, x1, x2, x3] = some (.fl [x, x1, x2, x3]) := id rfl
theorem ls60_0 : newR (some []) η = .ok (.ref η.length) (η ++ [.ls []]) := id rfl
theorem ls60_1 : newR (some [x]) η = .ok (.ref η.length) (η ++ [.ls [x]]) := id rfl
theorem ls60_2 : newR (some [x, x1]) η = .ok (.ref η.length) (η ++ [.ls [x, x1]]) := id rfl
theorem ls60_3 : newR (some [x, x1, x2]) η = .ok (.ref η.length) (η ++ [.ls [x, x1, x2]]) := id rfl
theorem look_n : lookE (some none) η = .bad := id rfl
theorem at0 {α : Type} {a : α} {l : List α} : atI (a :: l) 0 = some a := atI_nat (j := 0) rfl
theorem at1 {α : Type} {a b : α} {l : List α} : atI (a :: b :: l) 1 = some b := atI_nat (j := 1) rfl
theorem at2 {α : Type} {a b c : α} {l : List α} : atI (a :: b :: c :: l) 2 = some c := atI_nat (j := 2) rfl
theorem startP_eq : startP n xs = xs.map (fun x => some (.p x)) ++ List.replicate (n - xs.length) none := id rfl
theorem startD_eq {ds : List D} : startD n ds = ds.map some ++ List.replicate (n - ds.length) none := id rfl
end
section
variable {α : Type} {a b : α} {l : List α} {n : Nat}
theorem li_set0 : (a :: l).set 0 b = b :: l := id rfl
theorem li_setS : (a :: l).set (n + 1) b = a :: l.set n b := id rfl
theorem li_get0 : (a :: l)[0]? = some a := id rfl
theorem li_getS : (a :: l)[n + 1]? = l[n]? := id rfl
theorem li_map0 {β : Type} {f : α → β} : List.map f [] = [] := id rfl
theorem li_mapS {β : Type} {f : α → β} : List.map f (a :: l) = f a :: List.map f l := id rfl
theorem li_len0 : ([] : List α).length = 0 := id rfl
theorem li_lenS : (a :: l).length = l.length + 1 := id rfl
theorem li_app0 {l : List α} : [] ++ l = l := id rfl
theorem li_appS {k : List α} : (a :: l) ++ k = a :: (l ++ k) := id rfl
theorem li_rep0 : List.replicate 0 a = [] := id rfl
theorem li_repS : List.replicate (n + 1) a = a :: List.replicate n a := id rfl
theorem bo_nt : (!true) = false := id rfl
theorem bo_nf : (!false) = true := id rfl
theorem de_t : decide True = true := id rfl
theorem de_f : decide False = false := id rfl
theorem wi0 {ρ : LEnv} : wipeE ρ [] = ρ := by unfold wipeE; rfl
theorem wiS {ρ : LEnv} {v : Nat} {vs : List Nat} : wipeE ρ (v :: vs) = (wipeE ρ vs).set v none := by rw [wipeE]
end
def stB (b : SM) (o : Option LEnv) (η : RH) : SRes := match o with
  | some ρ => b ρ η
  | none => .bad
theorem stB_some {b : SM} {ρ : LEnv} {η : RH} : stB b (some ρ) η = b ρ η := id rfl
def After0 (J : LEnv → RH → Prop) (C : SRes → Prop) : SRes → Prop
  | .nx ρ η => J ρ η
  | .ct ρ η => J ρ η
  | .bk ρ η => C (.nx ρ η)
  | .rt d η => C (.rt d η)
  | .ex c xs ρ η => C (.ex c xs ρ η)
  | .bad => False
structure After (J : LEnv → RH → Prop) (C : SRes → Prop) (r : SRes) : Prop where
  get : After0 J C r
section
variable {J : LEnv → RH → Prop} {C : SRes → Prop} {ρ : LEnv} {η : RH} {d : D} {ys : List P} {k : Nat}
theorem After_nx : After J C (.nx ρ η) = J ρ η := propext ⟨fun h => h.get, fun h => ⟨h⟩⟩
theorem After_ct : After J C (.ct ρ η) = J ρ η := propext ⟨fun h => h.get, fun h => ⟨h⟩⟩
theorem After_bk : After J C (.bk ρ η) = C (.nx ρ η) := propext ⟨fun h => h.get, fun h => ⟨h⟩⟩
theorem After_rt : After J C (.rt d η) = C (.rt d η) := propext ⟨fun h => h.get, fun h => ⟨h⟩⟩
theorem After_ex : After J C (.ex k ys ρ η) = C (.ex k ys ρ η) := propext ⟨fun h => h.get, fun h => ⟨h⟩⟩
theorem for_run {t : Tg} {b : SM} (I : Nat → LEnv → RH → Prop) : ∀ (xs : List P) (i : Nat) (ρ : LEnv) (η : RH), I i ρ η →
    (∀ j x ρ η, xs[j]? = some x → I (i + j) ρ η → After (I (i + j + 1)) C (stB b (tgS t (.p x) ρ) η)) → (∀ ρ η, I (i + xs.length) ρ η → C (.nx ρ η)) → C (forL t b xs ρ η)
  | [], _, ρ, η, h, _, f => f ρ η h
  | x :: xs, i, ρ, η, h, st, f => by
    have h1 := (st 0 x ρ η rfl h).get
    have rest : ∀ ρ1 η1, I (i + 1) ρ1 η1 → C (forL t b xs ρ1 η1) := fun ρ1 η1 g =>
      for_run I xs (i + 1) ρ1 η1 g (fun j y ρ2 η2 e2 g2 => by
        have e3 : i + 1 + j = i + (j + 1) := by omega
        have := st (j + 1) y ρ2 η2 e2 (e3 ▸ g2)
        rw [e3]
        exact this) fun ρ2 η2 g2 => f ρ2 η2 (by
          have e3 : i + 1 + xs.length = i + (x :: xs).length := by rw [List.length_cons]; omega
          exact e3 ▸ g2)
    rw [forL_cons]
    revert h1
    unfold stB forB
    cases tgS t (.p x) ρ with
    | none => exact fun h => h.elim
    | some ρ1 =>
      simp only
      cases b ρ1 η with
      | nx ρ2 η2 => exact fun g => rest ρ2 η2 g
      | ct ρ2 η2 => exact fun g => rest ρ2 η2 g
      | bk ρ2 η2 => exact fun g => g
      | rt d η2 => exact fun g => g
      | ex c xs ρ2 η2 => exact fun g => g
      | bad => exact fun h => h.elim
theorem for_goal {t : Tg} {b : SM} {xs : List P} (I : Nat → LEnv → RH → Prop) (h0 : I 0 ρ η)
    (st : ∀ i x ρ η, xs[i]? = some x → I i ρ η → After (I (i + 1)) C (stB b (tgS t (.p x) ρ) η)) (fin : ∀ ρ η, I xs.length ρ η → C (.nx ρ η)) : C (forL t b xs ρ η) :=
  for_run I xs 0 ρ η h0 (fun j x ρ η e g => by
    have := st j x ρ η e (by rw [Nat.zero_add] at g; exact g)
    rw [Nat.zero_add]
    exact this) fun ρ η g => fin ρ η (by rw [Nat.zero_add] at g; exact g)
def stC2 : Res D → Res (Option P)
  | .ok (.p y) η => .ok (some y) η
  | _ => .bad
def stC1 (te : EM) (ρ : LEnv) : Res Bool → Res (Option P)
  | .ok true η => stC2 (te ρ η)
  | .ok false η => .ok none η
  | _ => .bad
def stC (tt : TM) (te : EM) (o : Option LEnv) (η : RH) : Res (Option P) := match o with
  | some ρ => stC1 te ρ (tt ρ η)
  | none => .bad
def Aft0 (J : Option P → RH → Prop) : Res (Option P) → Prop
  | .ok o η => J o η
  | _ => False
structure Aft (J : Option P → RH → Prop) (r : Res (Option P)) : Prop where
  get : Aft0 J r
def addO (ys : List P) : Option P → List P
  | some y => ys ++ [y]
  | none => ys
variable {tt : TM} {te : EM} {y : P} {Jo : Option P → RH → Prop} {o : Option P}
theorem stC_some : stC tt te (some ρ) η = stC1 te ρ (tt ρ η) := id rfl
theorem stC1_t : stC1 te ρ (.ok true η) = stC2 (te ρ η) := id rfl
theorem stC1_f : stC1 te ρ (.ok false η) = .ok none η := id rfl
theorem stC2_ok : stC2 (.ok (.p y) η) = .ok (some y) η := id rfl
theorem Aft_ok : Aft Jo (.ok o η) = Jo o η := propext ⟨fun h => h.get, fun h => ⟨h⟩⟩
theorem addO_s : addO ys (some y) = ys ++ [y] := id rfl
theorem addO_n : addO ys none = ys := id rfl
theorem comp_run {t : Tg} {ρ0 : LEnv} (I : Nat → List P → RH → Prop) : ∀ (xs : List P) (i : Nat) (ys : List P) (η : RH), I i ys η →
    (∀ j x ys η, xs[j]? = some x → I (i + j) ys η → Aft (fun o η => I (i + j + 1) (addO ys o) η) (stC tt te (tgS t (.p x) ρ0) η)) →
    ∃ zs η', compL t tt te ρ0 xs η = .ok zs η' ∧ I (i + xs.length) (ys ++ zs) η'
  | [], _, ys, η, h, _ => ⟨[], η, rfl, by rw [List.append_nil]; exact h⟩
  | x :: xs, i, ys, η, h, st => by
    have h1 := (st 0 x ys η rfl h).get
    have rest : ∀ ys1 η1, I (i + 1) ys1 η1 → ∃ zs η', compL t tt te ρ0 xs η1 = .ok zs η' ∧ I (i + (x :: xs).length) (ys1 ++ zs) η' := fun ys1 η1 g => by
      have := comp_run I xs (i + 1) ys1 η1 g (fun j y ys2 η2 e2 g2 => by
        have e3 : i + 1 + j = i + (j + 1) := by omega
        have := st (j + 1) y ys2 η2 e2 (e3 ▸ g2)
        rw [e3]
        exact this)
      rw [List.length_cons, show i + (xs.length + 1) = i + 1 + xs.length by omega]
      exact this
    rw [compL_cons]
    revert h1
    unfold stC compB
    cases tgS t (.p x) ρ0 with
    | none => exact fun h => h.elim
    | some ρ1 =>
      simp only
      cases tt ρ1 η with
      | ok c η1 =>
        cases c with
        | false =>
          intro g
          obtain ⟨zs, η', e, g'⟩ := rest ys η1 g
          exact ⟨zs, η', e, g'⟩
        | true =>
          simp only [stC1, compT]
          cases te ρ1 η1 with
          | ok d η2 =>
            cases d with
            | p y =>
              intro g
              obtain ⟨zs, η', e, g'⟩ := rest (ys ++ [y]) η2 g
              refine ⟨y :: zs, η', ?_, ?_⟩
              · rw [compE_ok, e, cons1_ok]
              · rw [List.append_assoc] at g'
                exact g'
            | ref n => exact fun h => h.elim
            | xv c xs => exact fun h => h.elim
          | ex c ys η2 => exact fun h => h.elim
          | bad => exact fun h => h.elim
      | ex c ys η2 => exact fun h => h.elim
      | bad => exact fun h => h.elim
theorem comp_goal {C : Res (List P) → Prop} {t : Tg} {ρ0 : LEnv} {xs : List P} (I : Nat → List P → RH → Prop) (h0 : I 0 [] η)
    (st : ∀ i x ys η, xs[i]? = some x → I i ys η → Aft (fun o η => I (i + 1) (addO ys o) η) (stC tt te (tgS t (.p x) ρ0) η))
    (fin : ∀ ys η, I xs.length ys η → C (.ok ys η)) : C (compL t tt te ρ0 xs η) := by
  obtain ⟨zs, η', e, g⟩ := comp_run (tt := tt) (te := te) (t := t) (ρ0 := ρ0) I xs 0 [] η h0 (fun j x ys η e g => by
    have := st j x ys η e (by rw [Nat.zero_add] at g; exact g)
    rw [Nat.zero_add]
    exact this)
  rw [e]
  rw [Nat.zero_add] at g
  exact fin zs η' g
theorem comp_done {t : Tg} {ρ0 : LEnv} {xs : List P} {r : Res (List P)} (e : compL t tt te ρ0 xs η = r) (I : Nat → List P → RH → Prop) (h0 : I 0 [] η)
    (st : ∀ i x ys η, xs[i]? = some x → I i ys η → Aft (fun o η => I (i + 1) (addO ys o) η) (stC tt te (tgS t (.p x) ρ0) η)) : ∃ ys η', r = .ok ys η' ∧ I xs.length ys η' := by
  subst e
  exact comp_goal (C := fun r => ∃ ys η', r = .ok ys η' ∧ I xs.length ys η') I h0 st fun ys η' g => ⟨ys, η', rfl, g⟩
theorem for_done {t : Tg} {b : SM} {xs : List P} {r : SRes} (e : forL t b xs ρ η = r) (I : Nat → LEnv → RH → Prop) (h0 : I 0 ρ η)
    (st : ∀ i x ρ η, xs[i]? = some x → I i ρ η → After (I (i + 1)) (fun _ => False) (stB b (tgS t (.p x) ρ) η)) : ∃ ρ' η', r = .nx ρ' η' ∧ I xs.length ρ' η' := by
  subst e
  have := for_goal (C := fun r => ∃ ρ' η', r = .nx ρ' η' ∧ I xs.length ρ' η') (xs := xs) (t := t) (b := b) I h0 (fun i x ρ η e g => by
    have := (st i x ρ η e g).get
    refine ⟨?_⟩
    revert this
    cases stB b (tgS t (.p x) ρ) η <;> first | exact fun h => h | exact fun h => h.elim) fun ρ' η' g => ⟨ρ', η', rfl, g⟩
  exact this
theorem for_end {t : Tg} {b : SM} {xs : List P} {r : SRes} (e : forL t b xs ρ η = r) (Q : SRes → Prop) (I : Nat → LEnv → RH → Prop) (h0 : I 0 ρ η)
    (st : ∀ i x ρ η, xs[i]? = some x → I i ρ η → After (I (i + 1)) Q (stB b (tgS t (.p x) ρ) η)) : Q r ∨ ∃ ρ' η', r = .nx ρ' η' ∧ I xs.length ρ' η' := by
  subst e
  have := for_goal (C := fun r => Q r ∨ ∃ ρ' η', r = .nx ρ' η' ∧ I xs.length ρ' η') (xs := xs) (t := t) (b := b) I h0 (fun i x ρ η e g => by
    have := (st i x ρ η e g).get
    refine ⟨?_⟩
    revert this
    cases stB b (tgS t (.p x) ρ) η <;> first | exact fun h => h | exact fun h => .inl h | exact fun h => h.elim) fun ρ' η' g => .inr ⟨ρ', η', rfl, g⟩
  exact this
theorem range_get {lo : Int} {n i : Nat} {x : P} (h : (rangeP lo n)[i]? = some x) : x = .int (lo + i) ∧ i < n := by
  unfold rangeP at h
  rw [List.getElem?_map] at h
  rcases Nat.lt_or_ge i n with hl | hl
  · rw [List.getElem?_range hl] at h
    cases h
    exact ⟨rfl, hl⟩
  · rw [List.getElem?_eq_none (by rw [List.length_range]; exact hl)] at h
    cases h
theorem range_len {lo : Int} {n : Nat} : (rangeP lo n).length = n := by simp [rangeP]
theorem enum_get {xs : List P} {i : Nat} {x : P} (h : (enumP 0 xs)[i]? = some x) : ∃ y, xs[i]? = some y ∧ x = .tup [.int (i : Int), y] := by
  have hl : i < xs.length := by
    have := (List.getElem?_eq_some_iff.mp h).1
    rw [enumP_length] at this
    exact this
  have e := enumP_get 0 xs i xs[i] (List.getElem?_eq_getElem hl)
  rw [e] at h
  cases h
  exact ⟨xs[i], List.getElem?_eq_getElem hl, by rw [Nat.zero_add]⟩
theorem g_pow {i : Int} {j : Nat} (h : (0:Int) ≤ j ∧ (j:Int) ≤ 1000000 ∧ i.natAbs < 2 ^ 64) : powI (.int i) (.int j) = some (.int (i ^ j)) := if_pos h
theorem g_pow18 : powI (.int 10) (.int 18) = some (.int 1000000000000000000) := g_pow (i := 10) (j := 18) ⟨by omega, by omega, by decide⟩
end
def iL (ds : List Int) : List P := ds.map P.int
theorem iL_len {ds : List Int} : (iL ds).length = ds.length := List.length_map ..
theorem iL_get {ds : List Int} {j : Nat} {v : Int} (h : ds[j]? = some v) : (iL ds)[j]? = some (.int v) := by unfold iL; rw [List.getElem?_map, h]; rfl
theorem iL_of {ds : List Int} {j : Nat} {x : P} (h : (iL ds)[j]? = some x) : ∃ v, x = .int v ∧ ds[j]? = some v := by
  unfold iL at h
  rw [List.getElem?_map] at h
  obtain ⟨v, hv, rfl⟩ := Option.map_eq_some_iff.mp h
  exact ⟨v, rfl, hv⟩
theorem iL_snoc {ds : List Int} {v : Int} : iL ds ++ [.int v] = iL (ds ++ [v]) := by unfold iL; rw [List.map_append]; rfl
theorem iL_set {ds : List Int} {j : Nat} {v : Int} : (iL ds).set j (.int v) = iL (ds.set j v) := by unfold iL; rw [List.map_set]
theorem small {n : Nat} (h : n ≤ 1000000) : n ≤ sizeLine := Nat.le_trans h (by decide)
theorem small' {n : Nat} (h : n ≤ 1000000) : n < sizeLine := Nat.lt_of_le_of_lt h (by decide)
theorem ix_nat {n j : Nat} (h : j < n) : ixN n (j : Int) = some j := by
  have h0 : (0 : Int) ≤ j := Int.natCast_nonneg j
  have h1 : (j : Int) < n := by omega
  simp only [ixN, h0, h1, if_true, Int.toNat_natCast]
section
variable {η : RH} {a v y : P} {d j : D} {n : Nat} {xs : List P} {o : Ob} {i k : Int}
def stoK (η : RH) (n : Nat) (oo : Option Ob) (i : Option P) (a : D) : Option RH := match oo with
  | some o => stoG η n o i a
  | none => none
theorem stoK_some : stoK η n (some o) (some a) d = stoG η n o (some a) d := id rfl
theorem e_sto1 : stoF η (.ref n) j d = stoK η n η[n]? (view η j) d := by
  cases h : η[n]? with
  | some o => exact e_stoF h
  | none =>
    unfold stoF
    rw [e_own, h]
    cases view η j <;> rfl
def setO (η : RH) (n : Nat) (xs : List P) (v : P) : Option Nat → Option RH
  | some t => some (η.set n (.ls (xs.set t v)))
  | none => none
theorem stoG_ls : stoG η n (.ls xs) (some (.int i)) (.p v) = setO η n xs v (ixN xs.length i) := by
  show (ixN xs.length i).map _ = _
  cases ixN xs.length i <;> rfl
theorem setO_some {t : Nat} : setO η n xs v (some t) = some (η.set n (.ls (xs.set t v))) := id rfl
theorem app_ls (h : xs.length < sizeLine) : appF η n (.ls xs) [.p y] = .ok (.p .non) (η.set n (.ls (xs ++ [y]))) := if_pos h
theorem g_mulR (h : -18446744073709551616 < k ∧ k < 18446744073709551616) : mulI (.int i) (.int k) = some (.int (i * k)) := g_mul (.inr ⟨h.1, h.2⟩)
theorem g_mulL (h : -18446744073709551616 < i ∧ i < 18446744073709551616) : mulI (.int i) (.int k) = some (.int (i * k)) := g_mul (.inl ⟨h.1, h.2⟩)
theorem mod_small (h : 0 < k ∧ k ≤ 18446744073709551616) : -18446744073709551616 < i % k ∧ i % k < 18446744073709551616 :=
  ⟨by have := Int.emod_nonneg i (show k ≠ 0 by omega); omega, by have := Int.emod_lt_of_pos i h.1; omega⟩
def retP1 (o : Option Ob) : PRes := match o with
  | some (.ls xs) => .ok (.fl xs)
  | _ => .bad
theorem retP1_ls : retP1 (some (.ls xs)) = .ok (.fl xs) := id rfl
theorem retP_self : retP η (.ref n) = retP1 η[n]? := by
  show (match η[n]? with | some (.ls xs) => PRes.ok (.fl xs) | _ => .bad) = _
  cases η[n]? with
  | none => rfl
  | some o => cases o <;> rfl
end
theorem g_rngN {k : Nat} (h : k ≤ 1000000000) : rngG1 [.int (k : Int)] = some (rangeP 0 k) := by
  have := g_rng1 (j := k) ⟨show (-4611686018427387904 : Int) ≤ k by omega, show (k : Int) < 4611686018427387904 by omega⟩
  rw [Int.toNat_natCast] at this
  exact this
end ML
set_option Elab.async false
set_option linter.all false
set_option maxRecDepth 100000
set_option maxHeartbeats 1000000
namespace ML
open PySem L2
section
variable {a b : Int} {c e : Bool} {s u : Str} {xs ys : List P} {x y : P} {η : RH} {n : Nat} {o o' : Ob}
theorem ok_int : okP (.int a) = true := by unfold okP noFi toPy SeqAt.shaped PyData.canLay0 PyData.depth; rfl
theorem ok_bl : okP (.bl c) = true := by unfold okP noFi toPy SeqAt.shaped PyData.canLay0 PyData.depth; rfl
theorem eqv_int : eqvP (.int a) (.int b) = decide (a = b) := by unfold eqvP toPy PyData.eqv; rfl
theorem eqv_bl : eqvP (.bl c) (.bl e) = decide (c = e) := by unfold eqvP toPy PyData.eqv; cases c <;> cases e <;> rfl
theorem eqv_str : eqvP (.str s) (.str u) = (s == u) := by unfold eqvP toPy PyData.eqv; rfl
theorem eqg_ok (h1 : okP x = true) (h2 : okP y = true) : eqG false x y = some (.bl (eqvP x y)) := if_pos ⟨h1, h2⟩
theorem neg_ok (h1 : okP x = true) (h2 : okP y = true) : eqG true x y = some (.bl (!eqvP x y)) := if_pos ⟨h1, h2⟩
theorem g_eqI : eqG false (.int a) (.int b) = some (.bl (decide (a = b))) := by rw [eqg_ok ok_int ok_int, eqv_int]
theorem g_neI : eqG true (.int a) (.int b) = some (.bl (!decide (a = b))) := by rw [neg_ok ok_int ok_int, eqv_int]
theorem g_eqB : eqG false (.bl c) (.bl e) = some (.bl (decide (c = e))) := by rw [eqg_ok ok_bl ok_bl, eqv_bl]
theorem g_neB : eqG true (.bl c) (.bl e) = some (.bl (!decide (c = e))) := by rw [neg_ok ok_bl ok_bl, eqv_bl]
theorem g_eqS (h1 : okP (.str s) = true) : eqG false (.str s) (.str s) = some (.bl true) := by rw [eqg_ok h1 h1, eqv_str, beq_self_eq_true]
theorem is_tuple_int : isiP "tuple" (some (.int a)) = some (.bl false) := isi_tuple rfl
theorem is_tuple_bl : isiP "tuple" (some (.bl c)) = some (.bl false) := isi_tuple rfl
theorem is_tuple_str : isiP "tuple" (some (.str s)) = some (.bl false) := isi_tuple rfl
theorem is_tuple_tup : isiP "tuple" (some (.tup xs)) = some (.bl true) := isi_tuple rfl
theorem is_tuple_fl : isiP "tuple" (some (.fl xs)) = some (.bl false) := isi_tuple rfl
theorem is_tuple_non : isiP "tuple" (some .non) = some (.bl false) := isi_tuple rfl
theorem is_list_int : isiP "list" (some (.int a)) = some (.bl false) := isi_list rfl
theorem is_list_bl : isiP "list" (some (.bl c)) = some (.bl false) := isi_list rfl
theorem is_list_str : isiP "list" (some (.str s)) = some (.bl false) := isi_list rfl
theorem is_list_tup : isiP "list" (some (.tup xs)) = some (.bl false) := isi_list rfl
theorem is_list_fl : isiP "list" (some (.fl xs)) = some (.bl true) := isi_list rfl
theorem is_list_non : isiP "list" (some .non) = some (.bl false) := isi_list rfl
theorem is_int_int : isiP "int" (some (.int a)) = some (.bl true) := isi_int rfl
theorem is_int_bl : isiP "int" (some (.bl c)) = some (.bl true) := isi_int rfl
theorem is_int_str : isiP "int" (some (.str s)) = some (.bl false) := isi_int rfl
theorem is_int_tup : isiP "int" (some (.tup xs)) = some (.bl false) := isi_int rfl
theorem is_int_fl : isiP "int" (some (.fl xs)) = some (.bl false) := isi_int rfl
theorem is_int_non : isiP "int" (some .non) = some (.bl false) := isi_int rfl
theorem is_bool_int : isiP "bool" (some (.int a)) = some (.bl false) := isi_bool rfl
theorem is_bool_bl : isiP "bool" (some (.bl c)) = some (.bl true) := isi_bool rfl
theorem is_bool_str : isiP "bool" (some (.str s)) = some (.bl false) := isi_bool rfl
theorem is_bool_tup : isiP "bool" (some (.tup xs)) = some (.bl false) := isi_bool rfl
theorem is_bool_fl : isiP "bool" (some (.fl xs)) = some (.bl false) := isi_bool rfl
theorem is_bool_non : isiP "bool" (some .non) = some (.bl false) := isi_bool rfl
theorem is_str_int : isiP "str" (some (.int a)) = some (.bl false) := isi_str rfl
theorem is_str_bl : isiP "str" (some (.bl c)) = some (.bl false) := isi_str rfl
theorem is_str_str : isiP "str" (some (.str s)) = some (.bl true) := isi_str rfl
theorem is_str_tup : isiP "str" (some (.tup xs)) = some (.bl false) := isi_str rfl
theorem is_str_fl : isiP "str" (some (.fl xs)) = some (.bl false) := isi_str rfl
theorem is_str_non : isiP "str" (some .non) = some (.bl false) := isi_str rfl
theorem nn_int : isNon (.int a) = false := id rfl
theorem nn_bl : isNon (.bl c) = false := id rfl
theorem nn_str : isNon (.str s) = false := id rfl
theorem nn_tup : isNon (.tup xs) = false := id rfl
theorem nn_fl : isNon (.fl xs) = false := id rfl
theorem nn_non : isNon .non = true := id rfl
end
end ML
set_option Elab.async false
set_option linter.all false
set_option maxRecDepth 100000
set_option maxHeartbeats 1000000
namespace ML
open PySem PySem.Spec PyProof.Rows L2 PySem.W
structure SupOk (P : Program) (K : Frag) (mg : Str → Option Value) (f cda cc D C : Addr) (fd : FuncData) (sn : Str) : Prop where
  lk : ∃ oc od osl, K.lookup f = some ⟨oc, od, .func fd, osl⟩
  par : ∃ ar, (fd.params.posonlyargs ++ fd.params.args).head? = some ar ∧ ar.arg = sn
  code : ∃ ccl cdd vs ccs file tf, K.lookup cda = some ⟨ccl, cdd, .fields vs, ccs⟩ ∧ vs[2]? = some (.str file tf) ∧ ((P.main.file : Str) == file) = true
  cell : ∃ cl cld csl, K.lookup cc = some ⟨cl, cld, .cell (some (.ref D)), csl⟩
  clsD : ∃ cd, clsIn K D = some cd
  clsC : ∃ cd, clsIn K C = some cd
  sub : mroIn K C (.ref D) = some true
  top : (P.main.scope.names.lookup ("super" : Str)).isSome = false
  mg0 : mg "super" = none
  opq : nsIn K cStatics "thirdparty.any" = some none
  next : ks_superIn K C D "__init__" = some (some (.builtin "ValueError.__init__"))
  isV : subIn K (.ref C) (.type "ValueError") = some true
theorem super_init {X : Cx} {pins : List (Addr × Obj)} {σ : L2.St} {H : Hp} {s : Shared} {a C D f cc cda : Addr} {fd : FuncData} {sn : Str} {body : List Stmt} {p0 p1 p2 pos pos' : Pos} {e : Expr} {ta : TA} {pl : Sem Bool} {Q : Flow → Shared → Prop}
    (S : SupOk X.prog X.K X.mg f cda cc D C fd sn) (T : OexC X.K C) (I : Inv X pins σ H s) (ea : H a = some (exo a C none)) (hself : ∃ m, s.heap.Ns X.env.locals m ∧ m sn = some (.ref a))
    (hks : X.env.kindOf "super" = some .globalImplicit) (hkc : X.env.kindOf "__class__" = some .free) (hka : X.env.kindOf sn = some .local) (hfu : X.env.func = some f) (hco : X.env.code = .ref cda) (hcl : X.env.cells.lookup ("__class__" : Str) = some cc)
    (ha : PA X [e] ta) (ht : ta σ H fun vs H1 => vs.length ≤ 1000 ∧ H1 = H)
    (he : eval (.Call (.Attribute (.Call (.Name "super" p0) [] [] p1) "__init__" p2) [e] [] pos) X.env = (do
      let ov ← attributeBase (.Call (.Name "super" p0) [] [] p1) "__init__" X.env (eval (.Call (.Name "super" p0) [] [] p1) X.env)
      standAt p2.atName
      let (f, first) ← holding [ov] (getMethod ov "__init__" pl)
      callWith pos f first (backTo pos (starEach [e] X.env)) []))
    (hi : interactive X.env = false) (hs : swapsWith (.Call (.Attribute (.Call (.Name "super" p0) [] [] p1) "__init__" p2) [e] [] pos) none pos'.line X.env = pure false)
    (hst : starEach [e] X.env = (false, eval e X.env) :: starEach [] X.env)
    (h : ∀ s', Inv X pins σ H s' → Q .next s') :
    _root_.PySem.wpAt (model X.prog X.w) X.A (.func body X.env) (exec (.Expr (.Call (.Attribute (.Call (.Name "super" p0) [] [] p1) "__init__" p2) [e] [] pos) pos') X.env) Q X.xe s := by
  obtain ⟨oc, od, osl, lk⟩ := S.lk
  obtain ⟨ar, hp, rfl⟩ := S.par
  obtain ⟨ccl, cdd, vs, ccs, file, tf, lcode, hvs, hfile⟩ := S.code
  obtain ⟨cl, cld, csl, lcell⟩ := S.cell
  obtain ⟨cdD, hD⟩ := S.clsD
  obtain ⟨cdC, hC⟩ := S.clsC
  obtain ⟨m, hns, hm⟩ := hself
  obtain ⟨oD, hD1, hD2⟩ : ∃ oD, s.heap.get? D = some oD ∧ oD.data = .cls cdD := by
    unfold clsIn at hD
    split at hD
    · rename_i c d cd' sl ho
      cases hD
      exact ⟨_, I.kIn _ _ ho, rfl⟩
    · cases hD
  obtain ⟨mb, hb1, hb2⟩ := I.mod.blt
  refine ks_wpAt_Expr_any ?_ hi hs
  refine ks_wpAt_MethodCall (pl := pl) ?_ he
  refine ks_wpAt_super_base (env := X.env) hks hkc (by decide) hfu (I.kIn _ _ lk) rfl hp hco (I.kIn _ _ lcode) rfl hvs hfile S.top ?_
  refine ks_loadName_global I.ok.kind hks (Calls.loadGlobal_builtin (by rw [I.ok.glob]; exact I.mod.glob.keeps I.bk) S.mg0 (by rw [I.ok.blt]; exact hb1.keeps I.bk) ((hb2 "super" (by decide)).trans rfl) ⟨rfl, ?_⟩)
  refine wpAny_loadName_free I.ok.kind hkc hcl ⟨_, I.kIn _ _ lcell, rfl⟩ ?_
  refine wpAny_loadName_local I.ok.kind hka hns hm ?_
  refine ks_wpAny_isType_cls hD1 hD2 ⟨rfl, ?_⟩
  obtain ⟨hh, g, d, t, os⟩ := s
  obtain ⟨t1, ho⟩ := exo_at I.hok ea
  obtain ⟨nm, qn, N, bs, bm, sn', sub, ab, col, dd, k0, k1, k2, k3, k5, hCl, hbm⟩ := T.cls
  have haC : a ≠ C := fun z => by
    have q := I.kIn _ _ hCl
    rw [← z] at q
    have q2 := ho.symm.trans q
    have q3 := congrArg Obj.data (Option.some.inj q2)
    cases q3
  refine ks_wpAny_call_super hD1 hD2 ho rfl (fun c e => nomatch e) (looks_mroIn I.kIn S.sub) (fun h' e' k => ?_)
  have I2 := I.kept (t' := t) k
  have hC2 : Looks (model X.prog X.w) h' (mroOf (.ref C)) cdC.mro := fun A Q E s k q => wpAny_bind ((looks_clsIn I2.kIn hC) A _ E s k (wpAny_pure q))
  have hI2 : Looks (model X.prog X.w) h' (isInstance (.ref a) (.type "ValueError")) true := by
    have J : InstAt h' a { cls := .ref C, dict := none, data := .fields #[.ref t1, .none, .none, .none, .bool false, .none] } C none := ⟨k _ _ ho, rfl, rfl, trivial⟩
    exact J.type.andThen (looks_subIn I2.kIn S.isV)
  have nx := S.next
  unfold ks_superIn at nx
  rw [hC, Option.bind_some] at nx
  refine kxs_getMethod kxs_ValueError e' (looks_opaque I2.kIn S.opq) hC2 rfl I2.kIn nx hI2 haC (by decide) ?_
  have hmw : (h'.push (kxs_mw "ValueError.__init__" a)).get? h'.objs.size = some (kxs_mw "ValueError.__init__" a) := Heap.get?_push_at rfl rfl
  have I3 := I2.kept (h' := h'.push (kxs_mw "ValueError.__init__" a)) (t' := t + 1) fun b o z => Heap.get?_push_of_some _ z
  have I4 : Inv X ((h'.objs.size, kxs_mw "ValueError.__init__" a) :: pins) σ H ⟨h'.push (kxs_mw "ValueError.__init__" a), g, d, t + 1, os⟩ := I3.pins_of fun p hp => by
    rcases List.mem_cons.mp hp with rfl | hp
    · exact ⟨hmw, I2.hok.fresh (Nat.le_refl _), fun z => absurd I2.lt (by rw [← z]; exact Nat.lt_irrefl _), I2.nofs (Nat.le_refl _), fun v z => nomatch z⟩
    · exact I3.pin p (List.mem_append_right _ hp)
  rw [hst]
  refine kxs_callWith (i := "ValueError.__init__") (x := a) rfl (Calls.evalArgs_plain ?_)
  have hr := ha.run pos _ _ σ H _ I4 ht
  rw [hst] at hr
  refine thn hr fun us s1 ⟨ws, H1, I5, r1, hz, eH⟩ => ?_
  subst eH
  have hu := (I5.pin (h'.objs.size, kxs_mw "ValueError.__init__" a) (List.mem_append_right _ List.mem_cons_self)).1
  refine ⟨hu, ?_⟩
  obtain ⟨t5, ho5⟩ := exo_at I5.hok ea
  have hus : us.length ≤ sizeLine := by
    rw [← Paired.length r1, sizeLine_eq]
    omega
  obtain ⟨h5, g5, d5, tk5, os5⟩ := s1
  refine wpAny_call (codeAny_of_tree ?_)
  show wpAny _ X.A.in1 (callAny (.ref h'.objs.size) ⟨us, []⟩) _ _ _
  simp only [callAny]
  refine wpAny_bind (wpAny_load hu ?_)
  simp only [kxs_mw, show (Value.type "method-wrapper" == Value.type "method" || Value.type "method-wrapper" == Value.type "builtin_function_or_method" || Value.type "method-wrapper" == Value.type "method-wrapper") = true by decide, if_true]
  refine KFB.if_so (by decide) ?_
  refine wpAny_bind (check_bound_init F.excBase_ValueError.toExcCallFacts (I5.kIn _ _ hCl) ho5 rfl ?_)
  refine wpAny_bind (wpAny_pure (wpAny_pure ?_))
  refine ⟨plainId_quiet F.excBase_ValueError.init.plain _, codeAny_builtin F.excBase_ValueError.initEntry ?_⟩
  refine exc_init_tree (cls := .ref C) (t0 := t5) (dv := none) (c2 := .none) (c3 := .none) (b4 := .bool false) ho5 hus fun h6 k6 e6 _ => ?_
  have J := I5.write (t' := tk5) (x := a) (e := a) (o := exo a C none) (h' := h6) (by rw [ea]; exact True.intro) (.inl rfl) k6 ⟨_, e6⟩ (exo_ok e6)
  have eu : upd H1 a (exo a C none) = H1 := by
    funext b
    by_cases hb : b = a
    · rw [hb, upd_same, ea]
    · rw [upd_ne hb]
  rw [eu] at J
  exact h _ (J.pins_of fun p hp => J.pin p (List.mem_append_right _ (List.mem_cons_of_mem _ hp)))
end ML
set_option Elab.async false
set_option linter.all false
set_option maxRecDepth 100000
set_option maxHeartbeats 1000000
namespace ML
open PySem PySem.Spec PyProof.Rows L2 PySem.W NdefX
def spI (C : Addr) (n : Nat) (fs : List V → List (Str × V)) : Sp := fun vs H Q _ => ∃ (a : Addr) (ws : List V), vs = .ref a :: ws ∧ ws.length = n ∧ H a = some (exo a C none) ∧
  ∀ (dx : Addr) (H' : Hp), H dx = none → dx ≠ a → H' a = some (exo a C (some dx)) → H' dx = some (exd dx (fs ws)) → (∀ b, b ≠ a → b ≠ dx → H' b = H b) → Q .non H'
section
variable {CX : CXT} {P : Program} {w : World} {K : Frag} {mg : Str → Option Value} {base : Heap} {N ps : List Str} {F : NF} {f cc D C : Addr} {k n : Nat} {dV kV doc pm ct oc : Value} {an od : Option Addr} {osl : Array (Option Value)} {sn : Str}
  {p0 p1 p2 pos pos' tp : Pos} {tx : Str} {j : Nat} {rest : List Stmt} {pl : Sem Bool} {fs : List V → List (Str × V)}
theorem fn_super (S : SupOk P K mg f F.c cc D C (fnX F.name F.qual F.params F.body F.scope F.cl dV kV doc pm an (.ref F.c) ct) sn) (T : OexC K C) (hcl : F.cl = [(("__class__" : Str), cc)])
    (lk : K.lookup f = some ⟨oc, od, .func (fnX F.name F.qual F.params F.body F.scope F.cl dV kV doc pm an (.ref F.c) ct), osl⟩) (hcd : codeIn K (.ref F.c) F.qual = true) (Sc : NScope N (sn :: ps) ["__class__"] F.scope)
    (hn : ps.length = n) (hks : F.scope.names.lookup ("super" : Str) = some .globalImplicit)
    (hb : F.body = .Expr (.Call (.Attribute (.Call (.Name "super" p0) [] [] p1) "__init__" p2) [.Constant (.str tx) j tp] [] pos) pos' :: rest)
    (hbody : ∀ (A : Around) (outer : List Env) (s : Shared) (H : Hp) (a : Addr) (ws : List V) (Q : VK) (E : XK), ws.length = n → H a = some (exo a C none) →
      (∀ (dx : Addr) (H' : Hp), H dx = none → dx ≠ a → H' a = some (exo a C (some dx)) → H' dx = some (exd dx (fs ws)) → (∀ b, b ≠ a → b ≠ dx → H' b = H b) → Q .non H') →
      ∃ t, PSs (ncx CX P w K mg base N F f A outer s H E) rest t ∧ t { nx := fun _ H' => Q .non H', rt := Q } (startF N (.ref a :: ws) [some (.ref D)]) H)
    (he : ∀ L, eval (.Call (.Attribute (.Call (.Name "super" p0) [] [] p1) "__init__" p2) [.Constant (.str tx) j tp] [] pos) (envF F f L) = (do
      let ov ← attributeBase (.Call (.Name "super" p0) [] [] p1) "__init__" (envF F f L) (eval (.Call (.Name "super" p0) [] [] p1) (envF F f L))
      standAt p2.atName
      let (g, first) ← holding [ov] (getMethod ov "__init__" pl)
      callWith pos g first (backTo pos (starEach [.Constant (.str tx) j tp] (envF F f L))) []))
    (hi : ∀ L, interactive (envF F f L) = false := by intro _; rfl)
    (hs : ∀ L, swapsWith (.Call (.Attribute (.Call (.Name "super" p0) [] [] p1) "__init__" p2) [.Constant (.str tx) j tp] [] pos) none pos'.line (envF F f L) = pure false := by intro _; rfl)
    (hst : ∀ L, starEach [.Constant (.str tx) j tp] (envF F f L) = (false, eval (.Constant (.str tx) j tp) (envF F f L)) :: starEach [] (envF F f L) := by intro _; rfl) :
    FnOk P w K mg base CX (k + 1) f (fnX F.name F.qual F.params F.body F.scope F.cl dV kV doc pm an (.ref F.c) ct) (sn :: ps) (spI C n fs) := by
  have len : ∀ vs H Q E, spI C n fs vs H Q E → vs.length = (sn :: ps).length := fun vs H Q E ⟨a, ws, e, hl, _⟩ => by rw [e, List.length_cons, List.length_cons, hl, hn]
  refine ⟨len, fun A outer s H args us vs Q E hr e0 hbd r hsp => ?_⟩
  have hl := len _ _ _ _ hsp
  obtain ⟨a, ws, rfl, hw, ea, hQ⟩ := hsp
  have KX : K.In s.heap := e0.mod.kin.keeps fun b o e => (e0.bs b o e).1
  have lim : s.heap.NoLimit := e0.mod.nolimit.keeps fun b o e => (e0.bs b o e).1
  obtain ⟨u0, ur, rfl, ru0, rur⟩ : ∃ u0 ur, us = u0 :: ur ∧ RelV (V.ref a) u0 ∧ Vals ws ur := by
    cases r with
    | @cons _ u0 _ ur h1 h2 => exact ⟨u0, ur, rfl, h1, h2⟩
  obtain rfl : u0 = Value.ref a := ru0
  obtain ⟨cl, cld, csl, lcell⟩ := S.cell
  have Cc : CellsAt F.cl ["__class__"] [some (V.ref D)] s.heap H := by
    refine ⟨rfl, fun y c e => ?_, fun x y c e1 e2 => ?_, fun i y e => ?_⟩
    · rw [hcl] at e
      have hc : c = cc := by
        simp only [List.lookup] at e
        split at e
        · exact (Option.some.inj e).symm
        · cases e
      subst hc
      exact ⟨(e0.bs _ _ (e0.mod.kin _ _ lcell)).2, _, _, KX _ _ lcell, rfl⟩
    · rw [hcl] at e1 e2
      have key : ∀ {z : Str}, List.lookup z [(("__class__" : Str), cc)] = some c → z = ("__class__" : Str) := fun {z} q => by
        simp only [List.lookup] at q
        split at q
        · rename_i q2
          exact eq_of_beq q2
        · cases q
      rw [key e1, key e2]
    · cases i with
      | zero =>
        cases e
        refine ⟨cc, by rw [hcl]; rfl, fun v hv => ?_⟩
        cases hv
        exact ⟨.ref D, rfl, _, KX _ _ lcell, rfl⟩
      | succ i => cases e
  refine codeAny_call_function hr.depth (KX _ _ lk) rfl Sc.co Sc.gen rfl (PySem.W.codeRec_of KX hcd) (hbd _ _ _ _ ?_)
  refine wpAny_newFunctionEnv Sc.nocell (fun ⟨n, _⟩ hy => Sc.par n (List.of_mem_zip hy).1) (fun h₁ hns hsb => ⟨lim.fresh _ hsb, ?_⟩) Sc.kind
  show codeAny _ _ (.func F.body (envF F f s.heap.objs.size)) _ _
  refine ks_codeAny_funcAt ?_
  have kp : ∀ b o, s.heap.get? b = some o → h₁.get? b = some o := fun b o e => hsb.extBut b o (Nat.ne_of_lt (Heap.lt_size e)) (Heap.get?_push_of_some _ e)
  obtain ⟨t, ht, hq⟩ := hbody A outer s H a ws Q E hw ea hQ
  have I : Inv (ncx CX P w K mg base N F f A outer s H E) [] (startF N (.ref a :: ws) [some (.ref D)]) H { s with heap := h₁, toks := s.toks + ((sn :: ps).zip (.ref a :: ur)).length } := inv_startN Sc hr.hd e0 hl (.cons rfl rur) Cc hns kp
  have fin : ∀ {σ' : L2.St} {H' : Hp} {v : V} {u : Value} {s' : Shared}, Inv (ncx CX P w K mg base N F f A outer s H E) [] σ' H' s' → L2.RelV v u → Q v H' → CE outer P w H s Q u s' :=
    fun {σ' H' v u s'} J rv q => ⟨v, H', J.os, J.bare, J.base, J.hok, rv, q⟩
  rw [hb]
  have ndP : (sn :: ps).Nodup := by
    have q := Sc.nd.sublist (List.take_sublist ((sn :: ps).length + 1) N)
    have q2 := Sc.pre
    rw [show ((sn :: ps).length + [("__class__" : Str)].length) = (sn :: ps).length + 1 from rfl] at q2
    rw [q2] at q
    exact (List.nodup_append.mp q).1
  refine ks_wpAt_execs_cons ?_
  have bodyEq : (Code.func (.Expr (.Call (.Attribute (.Call (.Name "super" p0) [] [] p1) "__init__" p2) [.Constant (.str tx) j tp] [] pos) pos' :: rest) (envF F f s.heap.objs.size)) = Code.func F.body (envF F f s.heap.objs.size) := by rw [hb]
  have main := super_init (X := ncx CX P w K mg base N F f A outer s H E) (Q := fun fl s' => match fl with
      | .next => _root_.PySem.wpAt (model P w) (A.deeper (envF F f s.heap.objs.size)) (.func F.body (envF F f s.heap.objs.size)) (execs rest (envF F f s.heap.objs.size)) (fun fl s' => CR CX outer P w H s Q E (.ok (.ret (match fl with | .ret v => v | _ => .none))) s') (ncx CX P w K mg base N F f A outer s H E).xe s'
      | fl => CR CX outer P w H s Q E (.ok (.ret (match fl with | .ret v => v | _ => .none))) s') (body := F.body) (p0 := p0) (p1 := p1) (p2 := p2) (pos := pos) (pos' := pos') (e := .Constant (.str tx) j tp) (ta := tCons (tC (.str tx)) tNil) S T I ea
    ⟨_, hns, zip_look ndP (i := 0) rfl rfl⟩ hks (Sc.frk _ List.mem_cons_self) (Sc.par _ List.mem_cons_self) rfl rfl (by show F.cl.lookup _ = _; rw [hcl]; rfl) (pa_cons pe_str pa_nil (hst _)) ⟨show 1 ≤ 1000 by decide, rfl⟩ (he _) (hi _) (hs _) (hst _) fun s' J => ?_
  · rw [bodyEq]
    exact main
  · refine wpAt_of_wpAny (wpAny_mono (ht.run [] _ (startF N (.ref a :: ws) [some (.ref D)]) H _ J hq) (fun fl s' hs => ?_) fun e s' hs => hs)
    cases fl with
    | ret u =>
      obtain ⟨v, σ', H', J, rv, q⟩ := hs
      exact fin J rv q
    | next =>
      obtain ⟨σ', H', J, q⟩ := hs
      exact fin (v := V.non) (u := Value.none) J rfl q
    | brk =>
      obtain ⟨_, _, _, q⟩ := hs
      exact False.elim q
    | cont =>
      obtain ⟨_, _, _, q⟩ := hs
      exact False.elim q
end
end ML
set_option Elab.async false
set_option linter.all false
set_option maxRecDepth 100000
set_option maxHeartbeats 1000000
namespace ML
open PySem PySem.Spec PyProof.Rows L2 PySem.W NdefX
def fld1 (g : Str) : List V → List (Str × V)
  | [v] => [(g, v)]
  | _ => []
def fld2 (g g' : Str) : List V → List (Str × V)
  | [v, u] => [(g', u), (g, v)]
  | _ => []
section
variable {CX : CXT} {P : Program} {w : World} {K : Frag} {mg : Str → Option Value} {base : Heap} {N : List Str} {F : NF} {f cc D C : Addr} {k : Nat} {dV kV doc pm ct oc : Value} {an od : Option Addr} {osl : Array (Option Value)} {sn x x' g g' : Str}
  {p0 p1 p2 pos pos' tp q1 q2 q3 q4 r1 r2 r3 r4 : Pos} {tx : Str} {j : Nat} {pl : Sem Bool}
structure InitOk (P : Program) (w : World) (K : Frag) (mg : Str → Option Value) (base : Heap) (CX : CXT) (C : Addr) (k n : Nat) (fs : List V → List (Str × V)) : Prop where
  oex : OexC K C
  ex : ∃ f fd ps, PySem.W.findIn K (.ref C) "__init__" = some (some (.ref f)) ∧ PySem.W.typeIn K (.ref f) = some (.type "function") ∧ Binds K fd ps [] ∧ FnOk P w K mg base CX k f fd ps (spI C n fs)
theorem init2_fn (S : SupOk P K mg f F.c cc D C (fnX F.name F.qual F.params F.body F.scope F.cl dV kV doc pm an (.ref F.c) ct) sn) (T : OexC K C) (hcl : F.cl = [(("__class__" : Str), cc)])
    (lk : K.lookup f = some ⟨oc, od, .func (fnX F.name F.qual F.params F.body F.scope F.cl dV kV doc pm an (.ref F.c) ct), osl⟩) (hcd : codeIn K (.ref F.c) F.qual = true) (Sc : NScope N [sn, x, x'] ["__class__"] F.scope)
    (hks : F.scope.names.lookup ("super" : Str) = some .globalImplicit) (hN0 : N[0]? = some sn) (hN1 : N[1]? = some x) (hN2 : N[2]? = some x') (hno : PySem.W.findIn K (.ref C) g = some none) (hno' : PySem.W.findIn K (.ref C) g' = some none)
    (hd0 : (sn == ("__debug__" : Str)) = false) (hd1 : (sn == ("__classdict__" : Str)) = false) (hd2 : (x == ("__debug__" : Str)) = false) (hd3 : (x == ("__classdict__" : Str)) = false) (hd4 : (x' == ("__debug__" : Str)) = false) (hd5 : (x' == ("__classdict__" : Str)) = false)
    (hb : F.body = [.Expr (.Call (.Attribute (.Call (.Name "super" p0) [] [] p1) "__init__" p2) [.Constant (.str tx) j tp] [] pos) pos', .Assign [.Attribute (.Name sn q1) g q2] (.Name x q3) q4, .Assign [.Attribute (.Name sn r1) g' r2] (.Name x' r3) r4])
    (he : ∀ L, eval (.Call (.Attribute (.Call (.Name "super" p0) [] [] p1) "__init__" p2) [.Constant (.str tx) j tp] [] pos) (envF F f L) = (do
      let ov ← attributeBase (.Call (.Name "super" p0) [] [] p1) "__init__" (envF F f L) (eval (.Call (.Name "super" p0) [] [] p1) (envF F f L))
      standAt p2.atName
      let (g, first) ← holding [ov] (getMethod ov "__init__" pl)
      callWith pos g first (backTo pos (starEach [.Constant (.str tx) j tp] (envF F f L))) []))
    (hi : ∀ L, interactive (envF F f L) = false) :
    FnOk P w K mg base CX (k + 1) f (fnX F.name F.qual F.params F.body F.scope F.cl dV kV doc pm an (.ref F.c) ct) [sn, x, x'] (spI C 2 (fld2 g g')) := by
  refine fn_super S T hcl lk hcd Sc rfl hks hb (fun A outer s H a ws Q E hw ea hQ => ?_) he hi
  match ws, hw with
  | [v, u], _ =>
    refine ⟨_, pss_cons (ps_ost (pe_var hN0 (.inl (Sc.par _ (by simp))) hd0 hd1) (pe_var hN1 (.inl (Sc.par _ (by simp))) hd2 hd3)) (pss_one (ps_ost (pe_var hN0 (.inl (Sc.par _ (by simp))) hd0 hd1) (pe_var hN2 (.inl (Sc.par _ (by simp))) hd4 hd5))),
      v, rfl, .ref a, rfl, a, C, rfl, T, hno, .inl ⟨ea, fun dx hn ne => ?_⟩⟩
    refine ⟨u, rfl, .ref a, rfl, a, C, rfl, T, hno', .inr ⟨dx, [(g, v)], upd_same, by rw [upd_ne ne, upd_same], show 1 ≤ 900 by decide, ?_⟩⟩
    refine hQ dx _ hn ne (by rw [upd_ne (Ne.symm ne), upd_same]) (by rw [upd_same]; rfl) fun b h1 h2 => by rw [upd_ne h2, upd_ne h1, upd_ne h2]
end
def ResA (r : Res (List ML.D)) (ρ : LEnv) (f : List ML.D → RH → SRes) : SRes := match r with
  | .ok ds η => f ds η
  | .ex c xs η => .ex c xs ρ η
  | .bad => .bad
def raiseS (c n : Nat) (am : AM) : SM := fun ρ η => ResA (am ρ η) ρ fun ds η => match asPs ds with
  | some xs => if xs.length = n then .ex c xs.reverse ρ η else .bad
  | none => .bad
structure FldOk (G : Gd) (c n : Nat) (fs : List V → List (Str × V)) : Prop where
  nm : ∀ vs, vs.length = n → (fs vs).map (·.1) = G.flds c
  vl : ∀ vs, vs.length = n → (fs vs).map (·.2) = vs.reverse
theorem fld1_ok {G : Gd} {c : Nat} {g : Str} (h : G.flds c = [g]) : FldOk G c 1 (fld1 g) :=
  ⟨fun vs hl => match vs, hl with | [v], _ => h.symm, fun vs hl => match vs, hl with | [v], _ => rfl⟩
theorem fld2_ok {G : Gd} {c : Nat} {g g' : Str} (h : G.flds c = [g', g]) : FldOk G c 2 (fld2 g g') :=
  ⟨fun vs hl => match vs, hl with | [v, u], _ => h.symm, fun vs hl => match vs, hl with | [v, u], _ => rfl⟩
section
variable {X : Cx} {G : Gd} {W : WX} {k : Nat} {e : Expr} {es : List Expr} {am : AM} {p pos pos' : Pos} {x : Str} {c0 n : Nat} {fs : List V → List (Str × V)}
theorem ds_raise (c : Ctx X G W (k + 1)) (I : InitOk X.prog X.w G.K X.mg X.base (L2.CX X.prog X.w) (G.cls c0) k n fs) (hf : FldOk G c0 n fs) (hg : Gl X x) (hm : X.mg x = some (.ref (G.cls c0))) (ha : DA X G W (e :: es) am) (hn : n ≤ 1000)
    (hdb : (x == ("__debug__" : Str)) = false := by decide) (he : starEach (e :: es) X.env = (false, eval e X.env) :: starEach es X.env := by rfl) (hpl : (backTo pos (starEach es X.env)).any (·.1) = false := by rfl) :
    DS X G W (.Raise (some (.Call (.Name x p) (e :: es) [] pos)) none pos') (raiseS c0 n am) := by
  obtain ⟨f, fd, ps, iC, tI, hb, F1⟩ := I.ex
  rw [← c.hK] at iC tI hb F1
  have T := I.oex
  rw [← c.hK] at T
  refine iS (ps_raise c.hc c.tk (pmk_oex T iC tI F1 c.hr hb .nil (fun _ _ _ _ _ _ _ cx => by obtain ⟨_, _, _, _, _, _, _, _, _, _, _, _, q⟩ := cx; exact q.elim) hg hm ha hdb he hpl)) fun D σ H h => ?_
  obtain ⟨ρ, η, μ, E, HR, h⟩ := h
  refine ⟨ρ, η, μ, E, HR, ?_⟩
  unfold raiseS at h
  generalize am ρ η = r at h ⊢
  cases r with
  | bad => exact h.elim
  | ex cc xs η1 => exact fun d H' μ' t x hr => (show FinS G W D H μ (.ex cc xs ρ η1) from h) d σ H' μ' t (E.mono t) x hr
  | ok ds η1 =>
    intro vs H1 μ1 t r1 HR1
    have h : FinS G W D H μ (match asPs ds with | some xs => if xs.length = n then SRes.ex c0 xs.reverse ρ η1 else .bad | none => .bad) := h
    cases hx : asPs ds with
    | none => rw [hx] at h; exact h.elim
    | some xs =>
      rw [hx] at h
      have h : FinS G W D H μ (if xs.length = n then SRes.ex c0 xs.reverse ρ η1 else .bad) := h
      by_cases hl : xs.length = n
      · rw [if_pos hl] at h
        have rl := asPs_rep hx r1
        have hv : vs.length = n := by rw [rl.length]; exact hl
        refine ⟨by omega, fun a hn1 => ⟨a, vs, by rw [List.append_nil], hv, upd_same, fun dx H' hdx hne e1 e2 e3 => ⟨rfl, dx, fs vs, e1, e2, ?_, ?_⟩⟩⟩
        · rw [upd_ne hne] at hdx
          exact hdx
        · have hdx1 : H1 dx = none := by rw [upd_ne hne] at hdx; exact hdx
          have sm : Same H1 (upd (del H' a) dx (.xd (fs vs))) := fun b o e => by
            have n1 : b ≠ dx := fun z => by rw [z, hdx1] at e; cases e
            have n2 : b ≠ a := fun z => by rw [z, hn1] at e; cases e
            rw [upd_ne n1, del_ne n2, e3 b n2 n1, upd_ne n2]
            exact e
          refine h dx σ _ μ1 (t.trans (Tr.same sm)) ((E.mono t).mono (Tr.same sm)) ⟨fs vs, upd_same, hf.nm vs hv, ?_⟩ (HR1.same sm)
          rw [hf.vl vs hv]
          exact RepL.mono (Same.imm sm) _ rl.reverse
      · rw [if_neg hl] at h
        exact h.elim
end
end ML
set_option Elab.async false
set_option linter.all false
set_option maxRecDepth 100000
set_option maxHeartbeats 2000000
namespace ML
open PySem PySem.Spec PyProof.Rows L2
end ML
set_option Elab.async false
set_option linter.all false
set_option maxRecDepth 100000
set_option maxHeartbeats 1000000
namespace ML
open PySem PySem.Spec PyProof.Rows L2
abbrev Gd.at (G : Gd) (h : Hot) : Gd := { G with hot := some h }
section
variable {G : Gd} {H : Hp} {μ : List Addr} {h : Hot}
theorem EnvRep.put {σ : SV} {ρ : LEnv} (r : EnvRep G H μ σ ρ) (i : Nat) {v : V} {d : ML.D} (q : RepD G H μ v d) : EnvRep G H μ (σ.set i (some v)) (ρ.set i (some d)) := by
  refine ⟨by rw [List.length_set, List.length_set]; exact r.len, fun j x e => ?_⟩
  by_cases hj : i = j
  · subst hj
    rcases Nat.lt_or_ge i ρ.length with hl | hl
    · rw [List.getElem?_set_self hl] at e
      cases e
      exact ⟨v, by rw [List.getElem?_set_self (by rw [r.len]; exact hl)], q⟩
    · rw [List.getElem?_eq_none (by rw [List.length_set]; exact hl)] at e
      cases e
  · rw [List.getElem?_set_ne hj] at e
    obtain ⟨u, h1, h2⟩ := r.at' j x e
    exact ⟨u, by rw [List.getElem?_set_ne hj]; exact h1, h2⟩
end
structure CS where
  sub : Nat → Option Bool
  i : Option Nat
  h : SM
end ML
set_option Elab.async false
set_option linter.all false
set_option maxRecDepth 100000
set_option maxHeartbeats 1000000
namespace ML
open PySem PySem.Spec PyProof.Rows L2
def fldIx (n : Str) : List Str → Option Nat
  | [] => none
  | m :: l => if n = m then some 0 else (fldIx n l).map (· + 1)
theorem fldIx_get {n : Str} : ∀ {fs : List (Str × V)} {j : Nat}, fldIx n (fs.map (·.1)) = some j → ∃ v, fs.lookup n = some v ∧ (fs.map (·.2))[j]? = some v
  | [], _, h => nomatch h
  | (m, v) :: fs, j, h => by
    have h : (if n = m then some 0 else (fldIx n (fs.map (·.1))).map (· + 1)) = some j := h
    by_cases e : n = m
    · rw [if_pos e] at h
      cases h
      subst e
      exact ⟨v, by simp [List.lookup], rfl⟩
    · rw [if_neg e] at h
      cases hj : fldIx n (fs.map (·.1)) with
      | none => rw [hj] at h; cases h
      | some i =>
        rw [hj] at h
        cases h
        obtain ⟨u, h1, h2⟩ := fldIx_get hj
        exact ⟨u, by rw [List.lookup_cons, show (n == m) = false from beq_eq_false_iff_ne.mpr e]; exact h1, h2⟩
end ML
set_option Elab.async false
set_option linter.all false
set_option maxRecDepth 100000
set_option maxHeartbeats 1000000
namespace ML
open PySem PySem.Spec PyProof.Rows L2 PySem.W NdefX
theorem super_bm {K : Frag} {C NN : Addr} {nm qn : Str} {bs bm sub : List Value} {hd : Bool} {sns : List Str} {ab : Bool} {col : Option Bool} {dd : Option Addr} {k0 k1 k2 k3 k5 : Option Value} {t : String} {v : Option (Option Value)} {x : Str}
    (o : K.lookup C = some (excClassObj nm qn C NN bs bm hd sns sub ab col dd k0 k1 k2 k3 k5 t)) (h : alongIn K x bm = v) : ks_superIn K C C x = v := by
  unfold ks_superIn clsIn
  rw [o]
  have e : ((Value.ref C :: bm).dropWhile (· != .ref C)).drop 1 = bm := by simp [List.dropWhile]
  show alongIn K x (((Value.ref C :: bm).dropWhile (· != .ref C)).drop 1) = v
  rw [e]
  exact h
theorem along_of {K : Frag} {M : Addr} {bm bt : List Value} {cM : Value} {dM : Option Addr} {sM : Array (Option Value)} {cdM : ClassData} {x : Str} {v : Option (Option Value)} (hM : bm = .ref M :: bt) (oM : K.lookup M = some ⟨cM, dM, .cls cdM, sM⟩) (mM : cdM.mro = .ref M :: bt)
    (h : findIn K (.ref M) x = v) : alongIn K x bm = v := by
  have e : findIn K (.ref M) x = alongIn K x cdM.mro := by
    show (match K.lookup M with | some ⟨_, _, .cls cd, _⟩ => alongIn K x cd.mro | _ => none) = _
    rw [oM]
  rw [hM, ← mM, ← e]
  exact h
structure ExcAt (P : Program) (K : Frag) (mg : Str → Option Value) (x : Str) (C : Addr) (n : Nat) (fs : List V → List (Str × V)) (gl : List Str) : Prop where
  no : ∀ g ∈ gl, findIn K (.ref C) g = some none
  at' : mg x = some (.ref C)
  kp : keepIn K (.ref C) = true
  oex : OexC K C
  xf : XfC K C
  ok : ∀ (w : World) (base : Heap) (CX : CXT), InitOk P w K mg base CX C 1 n fs
theorem use_exc2 {K : Frag} {h : Heap} {mg : Str → Option Value} (X : K.In h) (G : h.Ns mainGlobals mg) (P : Program) (x q : Str) (st : Stmt) (g g2 sn x1 x2 : Str) {N : List Str} {p0 p1 p2 pos pos' tp q01 q02 q03 q04 q11 q12 q13 q14 : Pos} {tx : Str} {j : Nat} {pl : Sem Bool}
    (Sc : nscB N [sn, x1, x2] ["__class__"] (defScope st) = true) (hks : (defScope st).names.lookup ("super" : Str) = some .globalImplicit) (hN0 : N[0]? = some sn) (hN1 : N[1]? = some x1) (hN2 : N[2]? = some x2) (hd0a : (sn == ("__debug__" : Str)) = false) (hd0b : (sn == ("__classdict__" : Str)) = false) (hd1a : (x1 == ("__debug__" : Str)) = false) (hd1b : (x1 == ("__classdict__" : Str)) = false) (hd2a : (x2 == ("__debug__" : Str)) = false) (hd2b : (x2 == ("__classdict__" : Str)) = false)
    (hb : defBody st = [.Expr (.Call (.Attribute (.Call (.Name "super" p0) [] [] p1) "__init__" p2) [.Constant (.str tx) j tp] [] pos) pos', .Assign [.Attribute (.Name sn q01) g q02] (.Name x1 q03) q04, .Assign [.Attribute (.Name sn q11) g2 q12] (.Name x2 q13) q14])
    (he : ∀ (cl : List (Str × Addr)) (c f L : Addr), eval (.Call (.Attribute (.Call (.Name "super" p0) [] [] p1) "__init__" p2) [.Constant (.str tx) j tp] [] pos) (envF ⟨"__init__", q, defArgs st, defBody st, defScope st, cl, c⟩ f L) = (do
      let ov ← attributeBase (.Call (.Name "super" p0) [] [] p1) "__init__" (envF ⟨"__init__", q, defArgs st, defBody st, defScope st, cl, c⟩ f L) (eval (.Call (.Name "super" p0) [] [] p1) (envF ⟨"__init__", q, defArgs st, defBody st, defScope st, cl, c⟩ f L))
      standAt p2.atName
      let (g, first) ← holding [ov] (getMethod ov "__init__" pl)
      callWith pos g first (backTo pos (starEach [.Constant (.str tx) j tp] (envF ⟨"__init__", q, defArgs st, defBody st, defScope st, cl, c⟩ f L))) []))
    (hi : ∀ (cl : List (Str × Addr)) (c f L : Addr), interactive (envF ⟨"__init__", q, defArgs st, defBody st, defScope st, cl, c⟩ f L) = false)
    (b : ∀ (cl : List (Str × Addr)) (kV doc pm : Value) (an : Option Addr) (cdv ct : Value) (us : List Value), us.length = 3 → bindArgs (fnX "__init__" q (defArgs st) (defBody st) (defScope st) cl .none kV doc pm an cdv ct) ⟨us, []⟩ = pure (([sn, x1, x2] : List Str).zip us))
    (par : ∃ ar, ((defArgs st).posonlyargs ++ (defArgs st).args).head? = some ar ∧ ar.arg = sn) (top : (P.main.scope.names.lookup ("super" : Str)).isSome = false)
    {C f cda cc NN M : Addr} {bt : List Value} {cM : Value} {dM : Option Addr} {sM : Array (Option Value)} {cdM : ClassData} {nm qn file : Str} {bs bm sub : List Value} {sns : List Str} {ab : Bool} {col : Option Bool} {dd od cdd cld an : Option Addr} {k0 k1 k2 k3 k5 : Option Value} {oc ccl clv kV doc pm ct : Value} {osl ccs csl : Array (Option Value)} {vs : Array Value} {tf : Tok} {cdC : ClassData} {goal : Prop}
    (a : nsIn K mainGlobals x = some (some (.ref C))) (o : K.lookup C = some (excClassObj nm qn C NN bs bm true sns sub ab col dd k0 k1 k2 k3 k5 "ValueError.__new__")) (hbm : PySem.HandSPX.refsVE bm = true)
    (sa : findIn K (.ref C) "__setattr__" = some (some (.builtin "object.__setattr__"))) (exC : subIn K (.ref C) (.type "BaseException") = some true) (tyC : typeIn K (.ref C) = some (.type "type")) (kC : keepIn K (.ref C) = true)
    (ga : findIn K (.ref C) "__getattribute__" = some (some (.builtin "BaseException.__getattribute__"))) (gg : findIn K (.ref C) "__getattr__" = some none) (hdC : hasDictIn K C = true) (no0 : PySem.W.findIn K (.ref C) g = some none) (no1 : PySem.W.findIn K (.ref C) g2 = some none)
    (iC : findIn K (.ref C) "__init__" = some (some (.ref f))) (tI : typeIn K (.ref f) = some (.type "function"))
    (l : K.lookup f = some ⟨oc, od, .func (fnX "__init__" q (defArgs st) (defBody st) (defScope st) [("__class__", cc)] .none kV doc pm an (.ref cda) ct), osl⟩) (c : codeIn K (.ref cda) q = true)
    (lc : K.lookup cda = some ⟨ccl, cdd, .fields vs, ccs⟩) (hv : vs[2]? = some (.str file tf)) (hfile : ((P.main.file : Str) == file) = true) (lcc : K.lookup cc = some ⟨clv, cld, .cell (some (.ref C)), csl⟩)
    (clC : clsIn K C = some cdC) (subC : mroIn K C (.ref C) = some true) (mg0 : nsIn K mainGlobals "super" = some none) (opq : nsIn K cStatics "thirdparty.any" = some none) (hM : bm = .ref M :: bt) (oM : K.lookup M = some ⟨cM, dM, .cls cdM, sM⟩) (mM : cdM.mro = .ref M :: bt) (nxt : findIn K (.ref M) "__init__" = some (some (.builtin "ValueError.__init__"))) (isV : subIn K (.ref C) (.type "ValueError") = some true)
    (n : ExcAt P K mg x C 2 (fld2 g g2) [g2, g] → goal) : goal := by
  refine n ⟨fun y hy => by rcases List.mem_cons.mp hy with rfl | hy; exact no1; rw [List.mem_singleton.mp hy]; exact no0, mg_of X G a, kC, ⟨⟨nm, qn, NN, bs, bm, sns, sub, ab, col, dd, k0, k1, k2, k3, k5, o, hbm⟩, sa, exC, tyC, kC⟩, ⟨ga, gg, exC, hdC⟩, fun w base CX => ⟨⟨⟨nm, qn, NN, bs, bm, sns, sub, ab, col, dd, k0, k1, k2, k3, k5, o, hbm⟩, sa, exC, tyC, kC⟩, f, fnX "__init__" q (defArgs st) (defBody st) (defScope st) [("__class__", cc)] .none kV doc pm an (.ref cda) ct, [sn, x1, x2], iC, tI, ?_, ?_⟩⟩
  · exact .all fun us hl => b _ _ _ _ _ _ _ us hl
  · exact init2_fn (F := ⟨"__init__", q, defArgs st, defBody st, defScope st, [("__class__", cc)], cda⟩)
      ⟨⟨_, _, _, l⟩, par, ⟨_, _, _, _, _, _, lc, hv, hfile⟩, ⟨_, _, _, lcc⟩, ⟨_, clC⟩, ⟨_, clC⟩, subC, top, mg_none_of X G mg0, opq, super_bm o (along_of hM oM mM nxt), isV⟩ ⟨⟨nm, qn, NN, bs, bm, sns, sub, ab, col, dd, k0, k1, k2, k3, k5, o, hbm⟩, sa, exC, tyC, kC⟩ rfl l c (nscope_by Sc) hks
      hN0 hN1 hN2 no0 no1 hd0a hd0b hd1a hd1b hd2a hd2b hb (fun L => he _ _ _ L) (fun L => hi _ _ _ L)
end ML
set_option Elab.async false
set_option linter.all false
set_option maxRecDepth 100000
set_option maxHeartbeats 1000000
namespace ML
open PySem PySem.Spec PyProof.Rows L2
def partM : Option EM → LEnv → RH → Res (Option Int)
  | none, _, η => .ok none η
  | some m, ρ, η => (m ρ η).bind fun d η => match view η d with
    | some (.int i) => .ok (some i) η
    | _ => .bad
def tMP (G : Gd) (W : WX) (om : Option EM) : TO := fun σ H Q => ∃ ρ η μ, EnvRep G H μ σ ρ ∧ HeapRep G H μ η ∧ Fin (fun (_ : Hp) (_ : List Addr) (b a : Option Int) => a = b) G W σ Q H μ (partM om ρ η)
def cutP {α : Type} (xs : List α) (lo hi : Option Int) : List α := (xs.drop (HT.sIx xs.length 0 lo)).take (HT.sIx xs.length xs.length hi - HT.sIx xs.length 0 lo)
def cutG (lo hi : Option Int) : P → Option P
  | .tup xs => some (.tup (cutP xs lo hi))
  | .fl xs => some (.fl (cutP xs lo hi))
  | _ => none
def slM (m : EM) (lo hi : Option EM) : EM := fun ρ η => (m ρ η).bind fun d η => (partM lo ρ η).bind fun l η => (partM hi ρ η).bind fun u η => ofO ((view η d).bind (cutG l u)) η
section
variable {X : Cx} {G : Gd} {W : WX} {k : Nat} {a b e o : Expr} {ma mb m mo : EM} {am : AM} {pos p2 : Pos} {es : List Expr} {lo hi : Option Expr} {ml mh : Option EM}
theorem RepL.cut {H : Hp} {vs : List V} {xs : List P} (l u : Option Int) (r : RepL G H vs xs) : RepL G H (cutV vs l u) (cutP xs l u) := by
  unfold cutV cutP
  rw [r.length]
  exact (r.drop _).take _
theorem dpo_none : PO X none (tMP G W none) := by
  refine ⟨fun pins s σ H Q I h => po_none.run pins s σ H Q I ?_⟩
  obtain ⟨ρ, η, μ, E, HR, h⟩ := h
  exact h none H μ Tr.refl rfl HR
theorem dpo_some (he : DE X G W e m) : PO X (some e) (tMP G W (some m)) := by
  refine ⟨fun pins s σ H Q I h => (po_some he).run pins s σ H Q I ?_⟩
  obtain ⟨ρ, η, μ, E, HR, h⟩ := h
  refine bindE E HR h fun v H1 μ1 d η1 E1 HR1 r1 t1 h1 => ?_
  cases hv : view η1 d with
  | none => rw [hv] at h1; exact h1.elim
  | some x =>
    rw [hv] at h1
    cases x <;> first | exact h1.elim | skip
    rename_i i
    exact ⟨i, repInt (viewRep HR1 r1 hv), h1 (some i) H1 μ1 Tr.refl rfl HR1⟩
theorem pe_frzR {t : TE} (h : PE X e t) : PE X e (fun σ H Q => t σ H fun v H1 => (∃ p xs, v = .ref p ∧ H1 p = some (.lst xs) ∧ ∀ o, Q v (upd H1 p (.frz o (.lst xs)))) ∨ Q v H1) := by
  refine ⟨fun pins s σ H Q I q => thn (h.run pins s σ H _ I q) fun u s1 ⟨v, H1, I1, r1, q1⟩ => ?_⟩
  rcases q1 with ⟨p, xs, e, hp, q1⟩ | q1
  · obtain ⟨od, I2⟩ := I1.lock hp trivial
    exact ⟨v, _, I2, r1, q1 od⟩
  · exact ⟨v, H1, I1, r1, q1⟩
theorem bindP {α β : Type} {R : Hp → List Addr → β → α → Prop} {Q : β → Hp → Prop} {Q1 : Option Int → Hp → Prop} {σ : SV} {H : Hp} {μ : List Addr} {ρ : LEnv} {η : RH} {om : Option EM} {kk : Option Int → RH → Res α} (E : EnvRep G H μ σ ρ) (HR : HeapRep G H μ η) (h : Fin R G W σ Q H μ ((partM om ρ η).bind kk))
    (hk : ∀ b H1 μ1 η1, EnvRep G H1 μ1 σ ρ → HeapRep G H1 μ1 η1 → Tr H μ H1 μ1 → Fin R G W σ Q H1 μ1 (kk b η1) → Q1 b H1) : tMP G W om σ H Q1 := by
  refine ⟨ρ, η, μ, E, HR, ?_⟩
  generalize partM om ρ η = r at h ⊢
  cases r with
  | ok d η1 =>
    intro v H1 μ1 t r hr
    cases r
    exact hk _ H1 μ1 η1 (E.mono t) hr t (Fin.mono (show Fin R G W σ Q H μ (kk _ η1) from h) t)
  | ex c xs η1 => exact h
  | bad => exact h
theorem de_slice (c : Ctx X G W k) (he : DE X G W e m) (hl : PO X lo (tMP G W ml)) (hu : PO X hi (tMP G W mh)) : DE X G W (.Subscript e (.Slice lo hi none p2) pos) (slM m ml mh) := by
  refine iE (pe_frzR (pe_slice (X := X) (pos := pos) (p2 := p2) (sl_tupA.or sl_list) he hl hu)) fun σ H Q h => ?_
  obtain ⟨ρ, η, μ, E, HR, h⟩ := h
  refine bindE E HR h fun v H1 μ1 d η1 E1 HR1 r1 t1 h1 => ?_
  refine bindP E1 HR1 h1 fun l H2 μ2 η2 E2 HR2 t2 h2 => ?_
  refine bindP E2 HR2 h2 fun u H3 μ3 η3 E3 HR3 t3 h3 => ?_
  obtain ⟨z, ez, q⟩ := ofO_fin HR3 h3
  have r3 := (r1.mono t2).mono t3
  cases hv : view η3 d with
  | none => rw [hv] at ez; cases ez
  | some x =>
    rw [hv, Option.bind_some] at ez
    have rv := viewRep HR3 r3 hv
    cases x <;> simp only [cutG, reduceCtorEq, Option.some.injEq] at ez
    · subst ez
      obtain ⟨p, vs, rfl, s, r⟩ := repTup rv
      rw [c.hK]
      refine .inl ⟨p, vs, rfl, s, fun hw => .inr ?_, fun _ n hn => .inr ?_⟩
      · have e : cutP _ l u = _ := (show cutP _ l u = _ from by unfold cutP; rw [← r.length, hw.1, hw.2, Nat.sub_zero, List.drop_zero, r.length, List.take_length])
        refine q _ H3 (Same.refl H3) ?_
        rw [e]
        exact Rep.tup s r
      · exact q _ _ (Same.up hn) (newTup hn (RepL.cut l u r))
    · subst ez
      obtain ⟨p, vs, rfl, s, r⟩ := rv
      rw [c.hK]
      refine .inr ⟨p, vs, rfl, s, fun n hn => .inl ⟨n, _, rfl, upd_same, fun o => ?_⟩⟩
      rw [upd_upd]
      exact q _ _ (Same.up hn) (newFl hn (RepL.cut l u r))
end
end ML
set_option Elab.async false
set_option linter.all false
set_option maxRecDepth 100000
set_option maxHeartbeats 1000000
namespace ML
open PySem PySem.Spec PyProof.Rows L2 RZ
section
variable {X : Cx} {G : Gd} {W : WX} {k : Nat} {a b e o i : Expr} {ma mb m mo mi : EM} {am : AM} {pos p2 tpos : Pos} {es : List Expr}
theorem walk_zipTT {K : PySem.W.Frag} {a b : Addr} {xs ys : List V} {n : Nat} (hn : n = min xs.length ys.length) : Walk (ItzT K a b) n (fun H => SqT K H a xs ∧ SqT K H b ys) (YPair (fun i => xs[i]?) (fun i => ys[i]?)) := by
  have lt : ∀ {i}, i < n → ∃ h1 : i < xs.length, i < ys.length := fun {i} h => ⟨by omega, by omega⟩
  refine ⟨fun i _ hi q => ?_, fun _ q => ⟨xs, ys, q.1, q.2, by omega⟩, fun i H v H' _ q y => ?_⟩
  · obtain ⟨h1, h2⟩ := lt hi
    exact ⟨xs, ys, xs[i], ys[i], q.1, q.2, List.getElem?_eq_getElem h1, List.getElem?_eq_getElem h2⟩
  · obtain ⟨T, x, z, e1, e2, e3, e4, e5⟩ := y
    exact ⟨T, x, z, e1, e2, e3, e4 xs q.1, e5 ys q.2⟩
def zipP : List P → List P → List P
  | x :: xs, y :: ys => .tup [x, y] :: zipP xs ys
  | _, _ => []
theorem zipP_len : ∀ (xs ys : List P), (zipP xs ys).length = min xs.length ys.length
  | [], ys => by cases ys <;> simp [zipP]
  | x :: xs, [] => by simp [zipP]
  | x :: xs, y :: ys => by rw [zipP, List.length_cons, zipP_len xs ys, List.length_cons, List.length_cons]; omega
theorem zipP_get : ∀ (xs ys : List P) (i : Nat) (x y : P), xs[i]? = some x → ys[i]? = some y → (zipP xs ys)[i]? = some (.tup [x, y])
  | [], _, _, _, _, h, _ => by simp at h
  | x :: xs, [], _, _, _, _, h => by simp at h
  | x :: xs, y :: ys, 0, _, _, h, h' => by simp at h h'; subst h; subst h'; rw [zipP]; rfl
  | x :: xs, y :: ys, i + 1, u, v, h, h' => by rw [zipP]; exact zipP_get xs ys i u v h h'
def zipG : List P → Option (List P)
  | [.tup xs, .tup ys] => some (zipP xs ys)
  | [.fl xs, .fl ys] => some (zipP xs ys)
  | _ => none
theorem itr_zip {J : It} {Gs : Hp → Prop} {H : Hp} {vs us : List V} {xs ys : List P} (w : Walk J (min vs.length us.length) Gs (YPair (fun i => vs[i]?) (fun i => us[i]?))) (hg : ∀ H2, Imm H H2 → Gs H2) (r : RepL G H vs xs) (r' : RepL G H us ys) : ItR G J H (zipP xs ys) := by
  refine ⟨Gs, _, by rw [zipP_len, ← r.length, ← r'.length]; exact w, hg, fun i H2 v H3 hi im y => ?_⟩
  obtain ⟨T, x, y, rfl, hT, rfl, hx, hy⟩ := y
  obtain ⟨z, hz, rz⟩ := r.getV hx
  obtain ⟨z', hz', rz'⟩ := r'.getV hy
  exact ⟨Same.up hT, _, zipP_get xs ys i z z' hz hz', newTup hT (RepL.cons (Rep.mono im z rz) (RepL.one (Rep.mono im z' rz')))⟩
theorem di_zip {e e2 : Expr} {p : Pos} {elts : List Expr} {kk : Nat} (c : Ctx X G W k) (hg : Gl X "zip") (hm : X.mg "zip" = none) (ha : DA X G W [e, e2] am)
    (hs : starEach [e, e2] X.env = (false, eval e X.env) :: starEach [e2] X.env := by rfl) (hpl : (backTo pos (starEach [e2] X.env)).any (·.1) = false := by rfl) :
    PI X (.Tuple elts kk tpos) (.Call (.Name "zip" p) [e, e2] [] pos) (tMI G W (itA zipG am)) := by
  refine iI (pi_zipA hg hm ha hs hpl) fun σ H R q => ?_
  obtain ⟨ρ, η, μ, E, HR, q⟩ := q
  refine bindA E HR q fun vs H1 μ1 ds η1 E1 HR1 r1 t1 h1 => ?_
  obtain ⟨z, e, q⟩ := ofL_fin h1
  cases ex : asPs ds with
  | none => rw [ex] at e; cases e
  | some xs =>
    rw [ex, Option.bind_some] at e
    have rl := asPs_rep ex r1
    unfold zipG at e
    split at e
    · rename_i xs ys
      cases e
      obtain ⟨v, ws, rfl, rv, rn⟩ := rl.cons_inv
      obtain ⟨u, ws2, rfl, ru, rn2⟩ := rn.cons_inv
      cases rn2.nil_inv
      obtain ⟨pa, va, rfl, sa, ra⟩ := repTup (Rep.view rv)
      obtain ⟨pb, vb, rfl, sb, rb⟩ := repTup (Rep.view ru)
      rw [c.hK]
      exact ⟨pa, pb, va, vb, rfl, .inr ⟨sa, sb, q _ H1 μ1 Tr.refl (itr_zip (walk_zipTT rfl) (fun H2 im => ⟨im.sqT sa, im.sqT sb⟩) ra rb) HR1⟩⟩
    · rename_i xs ys
      cases e
      obtain ⟨v, ws, rfl, rv, rn⟩ := rl.cons_inv
      obtain ⟨u, ws2, rfl, ru, rn2⟩ := rn.cons_inv
      cases rn2.nil_inv
      unfold Rep at rv ru
      obtain ⟨pa, va, rfl, sa, ra⟩ := rv
      obtain ⟨pb, vb, rfl, sb, rb⟩ := ru
      rw [c.hK]
      exact ⟨pa, pb, va, vb, rfl, .inl ⟨sa.sq, sb.sq, q _ H1 μ1 Tr.refl (itr_zip (walk_zip rfl) (fun H2 im => ⟨(im.sqF sa).sq, (im.sqF sb).sq⟩) ra rb) HR1⟩⟩
    · cases e
end
end ML
set_option Elab.async false
set_option linter.all false
set_option maxRecDepth 100000
set_option maxHeartbeats 1000000
namespace ML
open PySem PySem.Spec PyProof.Rows L2
theorem InitOk.mono {P : Program} {w : World} {K : PySem.W.Frag} {mg : Str → Option Value} {base : Heap} {CX : CXT} {C : Addr} {j k n : Nat} {fs : List V → List (Str × V)} (h : InitOk P w K mg base CX C j n fs) (hj : j ≤ k) : InitOk P w K mg base CX C k n fs := by
  obtain ⟨o, f, fd, ps, a, b, c, d⟩ := h
  exact ⟨o, f, fd, ps, a, b, c, d.mono hj⟩
def clsBody : Stmt → List Stmt
  | .ClassDef (body := b) .. => b
  | _ => []
structure ExcG (P : Program) (w : World) (G : Gd) (mg : Str → Option Value) (base : Heap) (x : Str) (c n : Nat) (fs : List V → List (Str × V)) : Prop where
  at' : mg x = some (.ref (G.cls c))
  ok : InitOk P w G.K mg base (L2.CX P w) (G.cls c) 1 n fs
  xf : XfC G.K (G.cls c)
  fl : FldOk G c n fs
  no : ∀ g ∈ G.flds c, PySem.W.findIn G.K (.ref (G.cls c)) g = some none
theorem ExcAt.g1 {P : Program} {w : World} {K : PySem.W.Frag} {mg : Str → Option Value} {base : Heap} {x : Str} {C : Addr} {g : Str} {cls : Nat → Addr} {flds : Nat → List Str} {hsh : NestedKey → Int} (c : Nat) (h : ExcAt P K mg x C 1 (fld1 g) [g]) (hc : cls c = C) (hf : flds c = [g]) :
    ExcG P w ⟨K, cls, flds, none, hsh⟩ mg base x c 1 (fld1 g) := by
  subst hc
  exact ⟨h.at', h.ok w base _, h.xf, fld1_ok hf, fun y hy => h.no y (hf ▸ hy)⟩
theorem ExcAt.g2 {P : Program} {w : World} {K : PySem.W.Frag} {mg : Str → Option Value} {base : Heap} {x : Str} {C : Addr} {g g' : Str} {cls : Nat → Addr} {flds : Nat → List Str} {hsh : NestedKey → Int} (c : Nat) (h : ExcAt P K mg x C 2 (fld2 g g') [g', g]) (hc : cls c = C) (hf : flds c = [g', g]) :
    ExcG P w ⟨K, cls, flds, none, hsh⟩ mg base x c 2 (fld2 g g') := by
  subst hc
  exact ⟨h.at', h.ok w base _, h.xf, fld2_ok hf, fun y hy => h.no y (hf ▸ hy)⟩
section
variable {X : Cx} {G : Gd} {W : WX} {k : Nat} {e : Expr} {es : List Expr} {am : AM} {p pos pos' : Pos} {x : Str} {c0 n : Nat} {fs : List V → List (Str × V)}
theorem ds_raiseG (c : Ctx X G W k) (I : ExcG X.prog X.w G X.mg X.base x c0 n fs) (ha : DA X G W (e :: es) am) (hk : 2 ≤ k := by decide) (hn : n ≤ 1000 := by decide) (hg : Gl X x := by rfl)
    (hdb : (x == ("__debug__" : Str)) = false := by decide) (he : starEach (e :: es) X.env = (false, eval e X.env) :: starEach es X.env := by rfl) (hpl : (backTo pos (starEach es X.env)).any (·.1) = false := by rfl) :
    DS X G W (.Raise (some (.Call (.Name x p) (e :: es) [] pos)) none pos') (raiseS c0 n am) := by
  obtain ⟨j, rfl⟩ : ∃ j, k = j + 1 := ⟨k - 1, by omega⟩
  exact ds_raise c (I.ok.mono (by omega)) I.fl hg I.at' ha hn hdb he hpl
def ixL (l : List (Nat × Nat)) (n : Nat) : Option Nat := l.lookup n
end
def clsL (l : List (Nat × Addr)) (n : Nat) : Addr := match l.lookup n with
  | some a => a
  | none => 0
def fldL (l : List (Nat × List Str)) (n : Nat) : List Str := match l.lookup n with
  | some a => a
  | none => []
end ML
set_option Elab.async false
set_option linter.all false
set_option maxRecDepth 100000
set_option maxHeartbeats 1000000
namespace ML
open PySem L2
section
variable {ρ : LEnv} {η η' : RH} {d a b : D} {ds : List D} {x y z : P} {xs ys : List P} {ma mb m mo mi : EM} {am : AM} {s : SM} {n c i j : Nat} {ls : List CS} {l : CS} {g : P → P → Option P} {lo hi : Option EM} {k u : Int} {ol ou : Option Int} {bb : Bool} {ll : List (Nat × Bool)} {lj : List (Nat × Nat)}
def raiseR (c n : Nat) (ρ : LEnv) (o : Option (List P)) (η : RH) : SRes := match o with
  | some xs => if xs.length = n then .ex c xs.reverse ρ η else .bad
  | none => .bad
def KRaise (c n : Nat) (ρ : LEnv) : Res (List D) → SRes
  | .ok ds η => raiseR c n ρ (asPs ds) η
  | .ex c xs η => .ex c xs ρ η
  | .bad => .bad
theorem e_raise : raiseS c n am ρ η = KRaise c n ρ (am ρ η) := by
  unfold raiseS ResA KRaise
  cases am ρ η with
  | ok ds η1 => simp only [raiseR] <;> cases asPs ds <;> rfl
  | _ => rfl
theorem KRaise_ok : KRaise c n ρ (.ok ds η) = raiseR c n ρ (asPs ds) η := id rfl
theorem raiseR_1 : raiseR c 1 ρ (some [x]) η = .ex c [x] ρ η := id rfl
theorem raiseR_2 : raiseR c 2 ρ (some [x, y]) η = .ex c [y, x] ρ η := id rfl
theorem ixL_hit : ixL ((c, j) :: lj) c = some j := by unfold ixL; rw [List.lookup_cons, beq_self_eq_true]
theorem ixL_miss (h : (n == c) = false) : ixL ((c, j) :: lj) n = ixL lj n := by unfold ixL; rw [List.lookup_cons, h]
def partR (o : Option P) (η : RH) : Res (Option Int) := match o with
  | some (.int i) => .ok (some i) η
  | _ => .bad
def KPart : Res D → Res (Option Int)
  | .ok d η => partR (view η d) η
  | .ex c xs η => .ex c xs η
  | .bad => .bad
theorem part_none : partM none ρ η = .ok none η := id rfl
theorem part_some : partM (some m) ρ η = KPart (m ρ η) := by
  show ((m ρ η).bind fun d η => match view η d with | some (.int i) => .ok (some i) η | _ => .bad) = KPart (m ρ η)
  cases m ρ η with
  | ok d η1 =>
    show (match view η1 d with | some (.int i) => Res.ok (some i) η1 | _ => .bad) = partR (view η1 d) η1
    cases view η1 d with
    | none => rfl
    | some x => cases x <;> rfl
  | _ => rfl
theorem KPart_ok : KPart (.ok d η) = partR (view η d) η := id rfl
theorem partR_int : partR (some (.int k)) η = .ok (some k) η := id rfl
def KSl3 (d : D) (l : Option Int) : Res (Option Int) → Res D
  | .ok u η => ofO (app1 (cutG l u) (view η d)) η
  | .ex c xs η => .ex c xs η
  | .bad => .bad
def KSl2 (hi : Option EM) (ρ : LEnv) (d : D) : Res (Option Int) → Res D
  | .ok l η => KSl3 d l (partM hi ρ η)
  | .ex c xs η => .ex c xs η
  | .bad => .bad
def KSl (lo hi : Option EM) (ρ : LEnv) : Res D → Res D
  | .ok d η => KSl2 hi ρ d (partM lo ρ η)
  | .ex c xs η => .ex c xs η
  | .bad => .bad
theorem e_sl : slM m lo hi ρ η = KSl lo hi ρ (m ρ η) := by
  unfold slM KSl
  cases m ρ η with
  | ok d η1 =>
    simp only [Res.bind_ok, KSl2]
    cases partM lo ρ η1 with
    | ok l η2 =>
      simp only [Res.bind_ok, KSl3]
      cases partM hi ρ η2 with
      | ok u η3 => simp only [Res.bind_ok] <;> cases view η3 d <;> rfl
      | _ => rfl
    | _ => rfl
  | _ => rfl
theorem KSl_ok : KSl lo hi ρ (.ok d η) = KSl2 hi ρ d (partM lo ρ η) := id rfl
theorem KSl2_ok : KSl2 hi ρ d (.ok ol η) = KSl3 d ol (partM hi ρ η) := id rfl
theorem KSl3_ok : KSl3 d ol (.ok ou η) = ofO (app1 (cutG ol ou) (view η d)) η := id rfl
theorem cutG_tup : cutG ol ou (.tup xs) = some (.tup (cutP xs ol ou)) := id rfl
theorem cutG_fl : cutG ol ou (.fl xs) = some (.fl (cutP xs ol ou)) := id rfl
end
theorem nc0 : ((0 : Nat) : Int) = 0 := id rfl
theorem nc1 : ((1 : Nat) : Int) = 1 := id rfl
theorem nc2 : ((2 : Nat) : Int) = 2 := id rfl
theorem nc3 : ((3 : Nat) : Int) = 3 := id rfl
theorem nc4 : ((4 : Nat) : Int) = 4 := id rfl
theorem nc5 : ((5 : Nat) : Int) = 5 := id rfl
theorem nc6 : ((6 : Nat) : Int) = 6 := id rfl
theorem nc7 : ((7 : Nat) : Int) = 7 := id rfl
theorem nc8 : ((8 : Nat) : Int) = 8 := id rfl
theorem nc9 : ((9 : Nat) : Int) = 9 := id rfl
theorem nc10 : ((10 : Nat) : Int) = 10 := id rfl
end ML
set_option Elab.async false
set_option linter.all false
set_option maxRecDepth 100000
set_option maxHeartbeats 1000000
namespace ML
open PySem PySem.Spec PyProof.Rows L2
def flatO : Ob → Bool
  | .ls _ => true
  | .dc _ => true
  | .dt _ => true
  | .fz _ => true
  | .fn _ => true
  | .gone => true
  | _ => false
def refsD : List D → List Nat
  | [] => []
  | .ref n :: ds => n :: refsD ds
  | .p _ :: ds => refsD ds
  | .xv _ _ :: ds => refsD ds
def renD : Nat → List D → List D
  | _, [] => []
  | k, .ref _ :: ds => .ref k :: renD (k + 1) ds
  | k, .p x :: ds => .p x :: renD k ds
  | k, .xv c xs :: ds => .xv c xs :: renD k ds
def getAll (η : RH) : List Nat → Option RH
  | [] => some []
  | n :: ns => match η[n]? with
    | some o => if flatO o = true then (getAll η ns).map (o :: ·) else none
    | none => none
def putAll : List Nat → RH → RH → Option RH
  | [], _, η => some η
  | n :: ns, o :: os, η => if flatO o = true then putAll ns os (η.set n o) else none
  | _ :: _, [], _ => none
def locOk (ns : List Nat) (η η' : RH) : D → Option RH → Res D
  | .p x, some η2 => .ok (.p x) η2
  | .ref j, some η2 => match ns[j]? with
    | some n => .ok (.ref n) η2
    | none => match η'[j]? with
      | some o => if flatO o = true then .ok (.ref η2.length) (η2 ++ [o]) else .bad
      | none => .bad
  | _, _ => .bad
def locEx (c : Nat) (xs : List P) : Option RH → Res D
  | some η2 => .ex c xs η2
  | none => .bad
def locK (ns : List Nat) (η : RH) : Res D → Res D
  | .ok d η' => locOk ns η η' d (putAll ns η' η)
  | .ex c xs η' => locEx c xs (putAll ns η' η)
  | .bad => .bad
def nodupB : List Nat → Bool
  | [] => true
  | n :: ns => !ns.contains n && nodupB ns
def locG (F : FS) (ds : List D) (η : RH) : Option RH → Res D
  | some os => locK (refsD ds) η (F (renD 0 ds) os)
  | none => .bad
def locR (F : FS) (ds : List D) (η : RH) : Res D := if nodupB (refsD ds) = true then locG F ds η (getAll η (refsD ds)) else .bad
def callL (F : FS) (am : AM) : EM := fun ρ η => (am ρ η).bind (locR F)
theorem nodupB_iff : ∀ {ns : List Nat}, nodupB ns = true → ns.Nodup
  | [], _ => List.nodup_nil
  | n :: ns, h => by
    simp only [nodupB, Bool.and_eq_true, Bool.not_eq_true', List.contains_eq_mem, decide_eq_false_iff_not] at h
    exact List.nodup_cons.mpr ⟨h.1, nodupB_iff h.2⟩
section
variable {G : Gd} {H H' : Hp} {μ μ' as : List Addr} {η η' η2 os : RH} {ns : List Nat}
theorem RepO.flat {a : Addr} {o : Ob} (f : flatO o = true) (r : RepO G H μ a o) : RepO G H μ' a o := by
  cases o <;> first | exact r | cases f
theorem ren_rep : ∀ {vs : List V} {ds : List D}, RepDs G H μ vs ds → ∃ as : List Addr, as.map some = (refsD ds).map (fun n => μ[n]?) ∧ ∀ pre : List Addr, RepDs G H (pre ++ as) vs (renD pre.length ds)
  | [], [], _ => ⟨[], rfl, fun _ => trivial⟩
  | v :: vs, .p x :: ds, r => by
    obtain ⟨as, e, h⟩ := ren_rep r.2
    exact ⟨as, e, fun pre => ⟨r.1, h pre⟩⟩
  | v :: vs, .xv c xs :: ds, r => by
    obtain ⟨as, e, h⟩ := ren_rep r.2
    exact ⟨as, e, fun pre => ⟨r.1, h pre⟩⟩
  | v :: vs, .ref n :: ds, r => by
    obtain ⟨as, e, h⟩ := ren_rep r.2
    obtain ⟨a, ea, rfl⟩ := r.1
    refine ⟨a :: as, by simp only [refsD, List.map_cons, e, ea], fun pre => ⟨⟨a, by rw [List.getElem?_append_right (Nat.le_refl _), Nat.sub_self]; rfl, rfl⟩, ?_⟩⟩
    have := h (pre ++ [a])
    rw [List.append_assoc, List.length_append] at this
    exact this
  | [], _ :: _, r => r.elim
  | _ :: _, [], r => r.elim
theorem as_get (e : as.map some = ns.map fun n => μ[n]?) {j : Nat} {a : Addr} (h : as[j]? = some a) : ∃ n, ns[j]? = some n ∧ μ[n]? = some a := by
  have e := congrArg (fun l => l[j]?) e
  simp only [List.getElem?_map, h, Option.map_some] at e
  cases hn : ns[j]? with
  | none => rw [hn] at e; cases e
  | some n =>
    rw [hn] at e
    exact ⟨n, rfl, (Option.some.inj e).symm⟩
theorem as_get' (e : as.map some = ns.map fun n => μ[n]?) {j n : Nat} (h : ns[j]? = some n) : ∃ a, as[j]? = some a ∧ μ[n]? = some a := by
  have e := congrArg (fun l => l[j]?) e
  simp only [List.getElem?_map, h, Option.map_some] at e
  cases ha : as[j]? with
  | none => rw [ha] at e; cases e
  | some a =>
    rw [ha] at e
    exact ⟨a, rfl, (Option.some.inj e).symm⟩
theorem as_mem (e : as.map some = ns.map fun n => μ[n]?) {a : Addr} (h : a ∈ as) : a ∈ μ := by
  obtain ⟨j, hj⟩ := List.mem_iff_getElem?.mp h
  obtain ⟨n, _, h2⟩ := as_get e hj
  exact List.mem_of_getElem? h2
theorem idx_inj (nd : μ.Nodup) {i j : Nat} {a : Addr} (h1 : μ[i]? = some a) (h2 : μ[j]? = some a) : i = j := by
  obtain ⟨l1, e1⟩ := List.getElem?_eq_some_iff.mp h1
  obtain ⟨l2, e2⟩ := List.getElem?_eq_some_iff.mp h2
  exact (List.getElem_inj nd).mp (e1.trans e2.symm)
theorem as_nodup (nd : μ.Nodup) : ∀ {as : List Addr} {ns : List Nat}, as.map some = ns.map (fun n => μ[n]?) → ns.Nodup → as.Nodup
  | [], _, _, _ => List.nodup_nil
  | a :: as, [], e, _ => by cases e
  | a :: as, n :: ns, e, h => by
    obtain ⟨h1, h2⟩ := List.nodup_cons.mp h
    simp only [List.map_cons, List.cons.injEq] at e
    refine List.nodup_cons.mpr ⟨fun hm => ?_, as_nodup nd e.2 h2⟩
    obtain ⟨j, hj⟩ := List.mem_iff_getElem?.mp hm
    obtain ⟨m, hm1, hm2⟩ := as_get e.2 hj
    have := idx_inj nd e.1.symm hm2
    subst this
    exact h1 (List.mem_of_getElem? hm1)
theorem getAll_get : ∀ {ns : List Nat} {os : RH}, getAll η ns = some os → os.length = ns.length ∧ ∀ (j n : Nat), ns[j]? = some n → ∃ o, os[j]? = some o ∧ η[n]? = some o ∧ flatO o = true
  | [], os, h => by cases h; exact ⟨rfl, fun j n h => nomatch h⟩
  | n :: ns, os, h => by
    unfold getAll at h
    cases ho : η[n]? with
    | none => rw [ho] at h; cases h
    | some o =>
      rw [ho] at h
      simp only at h
      split at h
      · rename_i hf
        obtain ⟨os', h1, rfl⟩ := Option.map_eq_some_iff.mp h
        obtain ⟨l, g⟩ := getAll_get h1
        refine ⟨by simp [l], fun j m hj => ?_⟩
        cases j with
        | zero => cases hj; exact ⟨o, rfl, ho, hf⟩
        | succ j => exact g j m hj
      · cases h
theorem putAll_get : ∀ {ns : List Nat} {os η η2 : RH}, putAll ns os η = some η2 → ns.Nodup → η2.length = η.length ∧ (∀ (j n : Nat), ns[j]? = some n → n < η.length → ∃ o, os[j]? = some o ∧ η2[n]? = some o ∧ flatO o = true) ∧ ∀ i : Nat, i ∉ ns → η2[i]? = η[i]?
  | [], os, η, η2, h, _ => by cases h; exact ⟨rfl, fun j n h => (nomatch h), fun _ _ => rfl⟩
  | n :: ns, [], η, η2, h, _ => by cases h
  | n :: ns, o :: os, η, η2, h, hn => by
    unfold putAll at h
    split at h
    · rename_i hf
      obtain ⟨h1, h2⟩ := List.nodup_cons.mp hn
      obtain ⟨l, g1, g2⟩ := putAll_get h h2
      rw [List.length_set] at l g1
      refine ⟨l, fun j m hj hm => ?_, fun i hi => ?_⟩
      · cases j with
        | zero =>
          cases hj
          refine ⟨o, rfl, ?_, hf⟩
          rw [g2 n h1, List.getElem?_set_self hm]
        | succ j => exact g1 j m hj hm
      · rw [g2 i (fun z => hi (List.mem_cons_of_mem _ z)), List.getElem?_set_ne (fun z => hi (by simp [z]))]
    · cases h
theorem RepD.imm (m : Imm H H') {v : V} : ∀ {d : D}, RepD G H μ v d → RepD G H' μ v d
  | .p x, h => Rep.mono m x h
  | .ref n, h => h
  | .xv c xs, ⟨h, e1, e2, e3, q⟩ => ⟨h, e1, e2, e3, q.mono m⟩
theorem RepDs.imm (m : Imm H H') : ∀ {vs : List V} {ds : List D}, RepDs G H μ vs ds → RepDs G H' μ vs ds
  | [], [], _ => trivial
  | _ :: _, _ :: _, h => ⟨h.1.imm m, RepDs.imm m h.2⟩
  | [], _ :: _, h => h.elim
  | _ :: _, [], h => h.elim
theorem RepO.keep (m : Imm H H') {a : Addr} (k : ∀ u, H a = some u → H' a = some u) : ∀ {o : Ob}, RepO G H μ a o → RepO G H' μ a o
  | .ls xs, ⟨vs, h, r⟩ => ⟨vs, k _ h, RepL.mono m _ r⟩
  | .lr ns, ⟨as, h, r⟩ => ⟨as, k _ h, r⟩
  | .dc kvs, ⟨ks, h, e, r⟩ => ⟨ks, k _ h, e, RepL.mono m _ r⟩
  | .dt kvs, ⟨ks, h, e, rk, r⟩ => ⟨ks, k _ h, e, RepL.mono m _ rk, RepL.mono m _ r⟩
  | .fz kvs, ⟨ob, ks, h, e, r⟩ => ⟨ob, ks, k _ h, e, RepL.mono m _ r⟩
  | .fn kvs, ⟨ob, ks, h, e, rk, r⟩ => ⟨ob, ks, k _ h, e, RepL.mono m _ rk, RepL.mono m _ r⟩
  | .gone, ⟨x, h⟩ => ⟨x, k _ h⟩
  | .ins c fs, ⟨dx, gs, h, e, r⟩ => ⟨dx, gs, k _ h, e, r.imm m⟩
  | .tp ds, ⟨vs, h, r⟩ => ⟨vs, k _ h, r.imm m⟩
theorem sub_heap (HR : HeapRep G H μ η) (e : as.map some = ns.map fun n => μ[n]?) (nd : ns.Nodup) (g : getAll η ns = some os) : HeapRep G H as os := by
  obtain ⟨l, gg⟩ := getAll_get g
  have la : as.length = ns.length := by simpa using congrArg List.length e
  refine ⟨by rw [la, l], as_nodup HR.nd e nd, fun j a o h1 h2 => ?_⟩
  obtain ⟨n, hn, ha⟩ := as_get e h1
  obtain ⟨o', ho, hη, hf⟩ := gg j n hn
  rw [h2] at ho
  cases ho
  exact (HR.ob n a o ha hη).flat hf
theorem Tr.up_from (t : Tr H as H' μ') (hs : ∀ a ∈ as, a ∈ μ) : Tr H μ H' μ :=
  ⟨t.imm, fun b o h n => t.fr b o h fun z => n (hs b z), t.tk, [], by simp, fun _ h => nomatch h⟩
theorem put_heap (HR : HeapRep G H μ η) (e : as.map some = ns.map fun n => μ[n]?) (nd : ns.Nodup) (t : Tr H as H' μ') (HR' : HeapRep G H' μ' η') (p : putAll ns η' η = some η2) : HeapRep G H' μ η2 := by
  obtain ⟨l, g1, g2⟩ := putAll_get p nd
  refine ⟨by rw [HR.len, l], HR.nd, fun i a o h1 h2 => ?_⟩
  by_cases hi : i ∈ ns
  · obtain ⟨j, hj⟩ := List.mem_iff_getElem?.mp hi
    have hl : i < η.length := by rw [← HR.len]; exact (List.getElem?_eq_some_iff.mp h1).1
    obtain ⟨o', ho, ho2, hf⟩ := g1 j i hj hl
    rw [h2] at ho2
    cases ho2
    obtain ⟨a', ha, hm⟩ := as_get' e hj
    rw [h1] at hm
    cases hm
    exact (HR'.ob j a o (t.get ha) ho).flat hf
  · rw [g2 i hi] at h2
    refine (HR.ob i a o h1 h2).keep t.imm fun u hu => t.fr a u hu fun hm => ?_
    obtain ⟨j, hj⟩ := List.mem_iff_getElem?.mp hm
    obtain ⟨n, hn, hμ⟩ := as_get e hj
    have := idx_inj HR.nd h1 hμ
    subst this
    exact hi (List.mem_of_getElem? hn)
theorem loc_fin {F : FS} {vs : List V} {ds : List D} {W : WX} {σ : SV} {Q : VK} (HR : HeapRep G H μ η) (r : RepDs G H μ vs ds) (h : FinE G W σ Q H μ (locR F ds η)) :
    ∃ ds' η' as, RepDs G H as vs ds' ∧ HeapRep G H as η' ∧ FinE G W σ Q H as (F ds' η') := by
  unfold locR at h
  split at h
  · rename_i hnd
    have nd := nodupB_iff hnd
    cases g : getAll η (refsD ds) with
    | none => rw [g] at h; exact h.elim
    | some os =>
      rw [g] at h
      obtain ⟨as, e, ra⟩ := ren_rep r
      refine ⟨renD 0 ds, os, as, ra [], sub_heap HR e nd g, ?_⟩
      have h : FinE G W σ Q H μ (locK (refsD ds) η (F (renD 0 ds) os)) := h
      have hs : ∀ a ∈ as, a ∈ μ := fun a ha => as_mem e ha
      generalize F (renD 0 ds) os = res at h
      cases res with
      | bad => exact h
      | ex c xs η' =>
        intro d H' μ' t x HR'
        have h : FinE G W σ Q H μ (locEx c xs (putAll (refsD ds) η' η)) := h
        cases p : putAll (refsD ds) η' η with
        | none => rw [p] at h; exact h.elim
        | some η2 =>
          rw [p] at h
          exact h d H' μ (t.up_from hs) x (put_heap HR e nd t HR' p)
      | ok d η' =>
        intro v H' μ' t rv HR'
        have h : FinE G W σ Q H μ (locOk (refsD ds) η η' d (putAll (refsD ds) η' η)) := h
        cases p : putAll (refsD ds) η' η with
        | none => rw [p] at h; cases d <;> exact h.elim
        | some η2 =>
          rw [p] at h
          have HR2 := put_heap HR e nd t HR' p
          cases d with
          | p x => exact h v H' μ (t.up_from hs) rv HR2
          | xv c xs => exact h.elim
          | ref j =>
            obtain ⟨a, ha, rfl⟩ := rv
            unfold locOk at h
            cases hj : (refsD ds)[j]? with
            | some n =>
              simp only [hj] at h
              obtain ⟨a', ha', hm⟩ := as_get' e hj
              have := t.get ha'
              rw [ha] at this
              cases this
              exact h _ H' μ (t.up_from hs) ⟨a, hm, rfl⟩ HR2
            | none =>
              simp only [hj] at h
              cases ho : η'[j]? with
              | none => simp only [ho] at h; exact h.elim
              | some o =>
                simp only [ho] at h
                split at h
                · rename_i hf
                  have ro := HR'.ob j a o ha ho
                  obtain ⟨l, el, fl⟩ := t.pre
                  have hal : a ∈ l := by
                    rw [el, List.getElem?_append_right (by
                      have := congrArg List.length e
                      simp only [List.length_map] at this
                      rw [this]
                      exact List.getElem?_eq_none_iff.mp hj)] at ha
                    exact List.mem_of_getElem? ha
                  have hn := fl a hal
                  have nm : a ∉ μ := fun hm => by
                    obtain ⟨u, hu⟩ := HR.tk a hm
                    rw [hn] at hu
                    cases hu
                  have T : Tr H μ H' (μ ++ [a]) := by
                    have T0 := t.up_from hs
                    exact ⟨T0.imm, T0.fr, T0.tk, [a], rfl, fun b hb => by simp at hb; subst hb; exact hn⟩
                  refine h _ H' _ T ⟨a, ?_, rfl⟩ (HR2.adopt nm (ro.flat hf) fun b ob q => q.grow)
                  rw [← HR2.len]
                  simp
                · exact h.elim
  · exact h.elim
end
section
variable {X : Cx} {G : Gd} {W : WX} {k j : Nat} {e : Expr} {am : AM} {pos p : Pos} {es : List Expr} {ps : List Str} {x : Str} {st : Stmt}
theorem de_callHL {F : FS} (c : Ctx X G W k) (h : HasFn X.prog X.w G X.mg X.base x st ps j (spS G ps.length F)) (ha : DA X G W (e :: es) am) (hj : j ≤ k := by decide) (hg : Gl X x := by rfl)
    (hdb : (x == ("__debug__" : Str)) = false := by decide) (he : starEach (e :: es) X.env = (false, eval e X.env) :: starEach es X.env := by rfl) (hpl : (backTo pos (starEach es X.env)).any (·.1) = false := by rfl) :
    DE X G W (.Call (.Name x p) (e :: es) [] pos) (callL (arityS ps.length F) am) := by
  obtain ⟨f, fd, fn, ok, hm, hk, hb⟩ := h
  rw [← c.hK] at ok hk hb
  refine iE (pe_callS (E := WE W) (ok.mono hj) c.hr hg hm hk hb (fun σ => passAt c.tk σ) ha hdb he hpl) fun σ H Q h => ?_
  obtain ⟨ρ, η, μ, E, HR, h⟩ := h
  refine bindA E HR h fun vs H1 μ1 ds η1 E1 HR1 r1 t1 h1 => ?_
  obtain ⟨ds', η', as, ra, HRa, fin⟩ := loc_fin HR1 r1 h1
  unfold arityS at fin
  split at fin
  · rename_i hl
    refine ⟨by rw [ra.length, hl], ds', η', as, ra, HRa, ?_⟩
    cases eF : F ds' η' with
    | ok y η2 => rw [eF] at fin; exact fin
    | ex c ys η2 => rw [eF] at fin; exact fin
    | bad => rw [eF] at fin; exact fin
  · exact fin.elim
end
def maskE : List Bool → LEnv → LEnv
  | true :: m, d :: ρ => d :: maskE m ρ
  | false :: m, _ :: ρ => none :: maskE m ρ
  | [], ρ => ρ
  | _ :: _, [] => []
def topE : LEnv → Nat
  | some (.ref n) :: ρ => max (n + 1) (topE ρ)
  | some (.p _) :: ρ => topE ρ
  | some (.xv _ _) :: ρ => topE ρ
  | none :: ρ => topE ρ
  | [] => 0
def cutH (k : Nat) (η : RH) : RH := if (η.take k).all flatO = true then η.take k else η
def gcR (m : List Bool) (n : Nat) : SRes → SRes
  | .nx ρ η => .nx (maskE m ρ) (cutH (max n (topE (maskE m ρ))) η)
  | .ct ρ η => .ct (maskE m ρ) (cutH (max n (topE (maskE m ρ))) η)
  | r => r
def gcS (m : List Bool) (s : SM) : SM := fun ρ η => gcR m η.length (s ρ η)
theorem mask_get : ∀ {m : List Bool} {ρ : LEnv} {i : Nat} {d : D}, (maskE m ρ)[i]? = some (some d) → ρ[i]? = some (some d)
  | [], ρ, i, d, h => by unfold maskE at h; exact h
  | true :: m, [], i, d, h => by unfold maskE at h; simp at h
  | false :: m, [], i, d, h => by unfold maskE at h; simp at h
  | true :: m, x :: ρ, 0, d, h => by unfold maskE at h; simpa using h
  | true :: m, x :: ρ, i + 1, d, h => by unfold maskE at h; simpa using mask_get (by simpa using h)
  | false :: m, x :: ρ, 0, d, h => by unfold maskE at h; simp at h
  | false :: m, x :: ρ, i + 1, d, h => by unfold maskE at h; simpa using mask_get (by simpa using h)
theorem mask_len : ∀ {m : List Bool} {ρ : LEnv}, (maskE m ρ).length = ρ.length
  | [], ρ => by unfold maskE; rfl
  | true :: m, [] => by unfold maskE; rfl
  | false :: m, [] => by unfold maskE; rfl
  | true :: m, x :: ρ => by unfold maskE; simp [mask_len]
  | false :: m, x :: ρ => by unfold maskE; simp [mask_len]
theorem top_lt : ∀ {ρ : LEnv} {i n : Nat}, ρ[i]? = some (some (.ref n)) → n < topE ρ
  | [], i, n, h => by simp at h
  | some (.ref m) :: ρ, 0, n, h => by simp at h; subst h; unfold topE; omega
  | some (.p x) :: ρ, 0, n, h => by simp at h
  | some (.xv c x) :: ρ, 0, n, h => by simp at h
  | none :: ρ, 0, n, h => by simp at h
  | some (.ref m) :: ρ, i + 1, n, h => by have := top_lt (ρ := ρ) (i := i) (n := n) (by simpa using h); unfold topE; omega
  | some (.p x) :: ρ, i + 1, n, h => by have := top_lt (ρ := ρ) (i := i) (n := n) (by simpa using h); unfold topE; exact this
  | some (.xv c x) :: ρ, i + 1, n, h => by have := top_lt (ρ := ρ) (i := i) (n := n) (by simpa using h); unfold topE; exact this
  | none :: ρ, i + 1, n, h => by have := top_lt (ρ := ρ) (i := i) (n := n) (by simpa using h); unfold topE; exact this
section
variable {G : Gd} {H H' : Hp} {μ μ' : List Addr} {η : RH} {σ : SV} {ρ : LEnv}
theorem EnvRep.mask {m : List Bool} (E : EnvRep G H μ σ ρ) : EnvRep G H μ σ (maskE m ρ) := ⟨by rw [mask_len]; exact E.len, fun i d h => E.at' i d (mask_get h)⟩
theorem cut_rep {k : Nat} {m : List Bool} (t : Tr H μ H' μ') (hk : μ.length ≤ k) (ht : topE (maskE m ρ) ≤ k) (E : EnvRep G H' μ' σ ρ) (HR : HeapRep G H' μ' η) :
    ∃ μ2, Tr H μ H' μ2 ∧ EnvRep G H' μ2 σ (maskE m ρ) ∧ HeapRep G H' μ2 (cutH k η) := by
  unfold cutH
  split
  · rename_i hf
    refine ⟨μ'.take k, ⟨t.imm, t.fr, t.tk, ?_⟩, ⟨(E.mask (m := m)).len, fun i d h => ?_⟩, ⟨by simp [HR.len], HR.nd.sublist (List.take_sublist _ _), fun n a o h1 h2 => ?_⟩⟩
    · obtain ⟨l, e, f⟩ := t.pre
      refine ⟨l.take (k - μ.length), ?_, fun a ha => f a (List.mem_of_mem_take ha)⟩
      rw [e, List.take_append, List.take_of_length_le hk]
    · obtain ⟨v, h1, h2⟩ := (E.mask (m := m)).at' i d h
      refine ⟨v, h1, ?_⟩
      cases d with
      | p x => exact h2
      | xv c xs => exact h2
      | ref n =>
        obtain ⟨a, ha, e⟩ := h2
        exact ⟨a, by rw [List.getElem?_take_of_lt (Nat.lt_of_lt_of_le (top_lt h) ht)]; exact ha, e⟩
    · have hn : n < k := by
        have := (List.getElem?_eq_some_iff.mp h1).1
        rw [List.length_take] at this
        omega
      have hfo : flatO o = true := List.all_eq_true.mp hf o (List.mem_of_getElem? h2)
      rw [List.getElem?_take_of_lt hn] at h1 h2
      exact (HR.ob n a o h1 h2).flat hfo
  · exact ⟨μ', t, E.mask, HR⟩
theorem gc_fin {W : WX} {D : Ends} {m : List Bool} {r : SRes} (h : FinS G W D H μ (gcR m μ.length r)) : FinS G W D H μ r := by
  cases r with
  | nx ρ η =>
    intro σ' H' μ' t E HR
    obtain ⟨μ2, t2, E2, HR2⟩ := cut_rep (m := m) t (Nat.le_max_left _ _) (Nat.le_max_right _ _) E HR
    exact h σ' H' μ2 t2 E2 HR2
  | ct ρ η =>
    intro σ' H' μ' t E HR
    obtain ⟨μ2, t2, E2, HR2⟩ := cut_rep (m := m) t (Nat.le_max_left _ _) (Nat.le_max_right _ _) E HR
    exact h σ' H' μ2 t2 E2 HR2
  | rt d η => exact h
  | bk ρ η => exact h
  | ex c xs ρ η => exact h
  | bad => exact h
variable {X : Cx} {W : WX} {st : Stmt} {sts : List Stmt} {s : SM}
theorem ds_gc (m : List Bool) (h : DS X G W st s) : DS X G W st (gcS m s) := iS h fun D σ H q => by
  obtain ⟨ρ, η, μ, E, HR, q⟩ := q
  refine ⟨ρ, η, μ, E, HR, gc_fin (m := m) ?_⟩
  rw [HR.len]
  exact q
theorem dss_gc (m : List Bool) (h : DSs X G W sts s) : DSs X G W sts (gcS m s) := iSs h fun D σ H q => by
  obtain ⟨ρ, η, μ, E, HR, q⟩ := q
  refine ⟨ρ, η, μ, E, HR, gc_fin (m := m) ?_⟩
  rw [HR.len]
  exact q
end
end ML
set_option Elab.async false
set_option linter.all false
set_option maxRecDepth 100000
set_option maxHeartbeats 1000000
namespace PySem
open AutoSeq1
open Builtin
end PySem
namespace ML
open PySem PySem.Spec PyProof.Rows L2
end ML
set_option Elab.async false
set_option linter.all false
set_option maxRecDepth 100000
set_option maxHeartbeats 4000000
namespace L2
open PySem PySem.Spec PyProof.Rows HT
end L2
namespace ML
open PySem PySem.Spec PyProof.Rows L2
end ML
set_option Elab.async false
set_option linter.all false
set_option maxRecDepth 100000
set_option maxHeartbeats 1000000
namespace ML
open PySem L2
section
variable {ρ : LEnv} {η η' η2 os : RH} {d a b : D} {ds : List D} {x y z : P} {xs ys : List P} {ma mb m mo mi : EM} {am : AM} {s : SM} {n c i j k : Nat} {ns : List Nat} {F : FS} {o : Ob} {M : List Bool} {ks : List (Key × P)} {kt : List (NestedKey × P)} {od : Option D} {vs : List Int}
def KCL (F : FS) : Res (List D) → Res D
  | .ok ds η => locR F ds η
  | .ex c xs η => .ex c xs η
  | .bad => .bad
theorem e_callL : callL F am ρ η = KCL F (am ρ η) := by unfold callL KCL; cases am ρ η <;> rfl
theorem KCL_ok : KCL F (.ok ds η) = locR F ds η := id rfl
def locI (F : FS) (ds : List D) (η : RH) : Bool → Option RH → Res D
  | true, some os => locK (refsD ds) η (F (renD 0 ds) os)
  | _, _ => .bad
theorem e_locR : locR F ds η = locI F ds η (nodupB (refsD ds)) (getAll η (refsD ds)) := by
  unfold locR locG locI
  cases nodupB (refsD ds) <;> cases getAll η (refsD ds) <;> rfl
theorem locI_t : locI F ds η true (some os) = locK (refsD ds) η (F (renD 0 ds) os) := id rfl
theorem rf_nil : refsD [] = [] := id rfl
theorem rf_ref : refsD (.ref n :: ds) = n :: refsD ds := id rfl
theorem rf_p : refsD (.p x :: ds) = refsD ds := id rfl
theorem rn_nil : renD k [] = [] := id rfl
theorem rn_ref : renD k (.ref n :: ds) = .ref k :: renD (k + 1) ds := id rfl
theorem rn_p : renD k (.p x :: ds) = .p x :: renD k ds := id rfl
theorem nd0 : nodupB [] = true := id rfl
theorem nd1 : nodupB [n] = true := id rfl
def getK : Option Ob → Option RH → Option RH
  | some o, some os => if flatO o = true then some (o :: os) else none
  | _, _ => none
theorem ga_nil : getAll η [] = some [] := id rfl
theorem ga_cons : getAll η (n :: ns) = getK η[n]? (getAll η ns) := by
  rw [getAll]
  unfold getK
  cases η[n]? with
  | none => cases getAll η ns <;> rfl
  | some o => cases getAll η ns <;> simp only [Option.map_none, Option.map_some, ite_self]
theorem gk_ls : getK (some (.ls xs)) (some os) = some (.ls xs :: os) := id rfl
theorem gk_dc : getK (some (.dc ks)) (some os) = some (.dc ks :: os) := id rfl
theorem gk_go : getK (some .gone) (some os) = some (.gone :: os) := id rfl
theorem gk_dt : getK (some (.dt kt)) (some os) = some (.dt kt :: os) := id rfl
theorem gk_fz : getK (some (.fz ks)) (some os) = some (.fz ks :: os) := id rfl
theorem gk_hd : getK (some (hand vs k)) (some os) = some (hand vs k :: os) := id rfl
theorem lk_ok : locK ns η (.ok d η') = locOk ns η η' d (putAll ns η' η) := id rfl
theorem lk_ex : locK ns η (.ex c xs η') = locEx c xs (putAll ns η' η) := id rfl
theorem le_some : locEx c xs (some η) = .ex c xs η := id rfl
theorem pa_nil : putAll [] os η = some η := id rfl
theorem pa_ls : putAll (n :: ns) (.ls xs :: os) η = putAll ns os (η.set n (.ls xs)) := id rfl
theorem pa_dc : putAll (n :: ns) (.dc ks :: os) η = putAll ns os (η.set n (.dc ks)) := id rfl
theorem pa_fz : putAll (n :: ns) (.fz ks :: os) η = putAll ns os (η.set n (.fz ks)) := id rfl
theorem pa_go : putAll (n :: ns) (.gone :: os) η = putAll ns os (η.set n .gone) := id rfl
theorem pa_dt : putAll (n :: ns) (.dt kt :: os) η = putAll ns os (η.set n (.dt kt)) := id rfl
theorem pa_hd : putAll (n :: ns) (hand vs k :: os) η = putAll ns os (η.set n (hand vs k)) := id rfl
def refK : Option Nat → Option Ob → RH → Res D
  | some n, _, η => .ok (.ref n) η
  | none, some o, η => if flatO o = true then .ok (.ref η.length) (η ++ [o]) else .bad
  | none, none, _ => .bad
theorem lo_p : locOk ns η η' (.p x) (some η2) = .ok (.p x) η2 := id rfl
theorem lo_ref : locOk ns η η' (.ref j) (some η2) = refK ns[j]? η'[j]? η2 := by
  show (match ns[j]? with
    | some n => .ok (.ref n) η2
    | none => match η'[j]? with
      | some o => if flatO o = true then .ok (.ref η2.length) (η2 ++ [o]) else .bad
      | none => .bad : Res D) = _
  cases h : ns[j]? with
  | some n => simp only [h, refK]
  | none => cases h2 : η'[j]? <;> simp only [h, h2, refK]
theorem rk_some : refK (some n) (some o) η = .ok (.ref n) η := id rfl
theorem rk_ls : refK none (some (.ls xs)) η = .ok (.ref η.length) (η ++ [.ls xs]) := id rfl
theorem rk_dc : refK none (some (.dc ks)) η = .ok (.ref η.length) (η ++ [.dc ks]) := id rfl
theorem rk_fz : refK none (some (.fz ks)) η = .ok (.ref η.length) (η ++ [.fz ks]) := id rfl
theorem rk_dt : refK none (some (.dt kt)) η = .ok (.ref η.length) (η ++ [.dt kt]) := id rfl
theorem e_gc : gcS M s ρ η = gcR M η.length (s ρ η) := id rfl
theorem gc_nx : gcR M n (.nx ρ η) = .nx (maskE M ρ) (cutH (max n (topE (maskE M ρ))) η) := id rfl
theorem gc_ct : gcR M n (.ct ρ η) = .ct (maskE M ρ) (cutH (max n (topE (maskE M ρ))) η) := id rfl
theorem gc_rt : gcR M n (.rt d η) = .rt d η := id rfl
theorem gc_bk : gcR M n (.bk ρ η) = .bk ρ η := id rfl
theorem gc_ex : gcR M n (.ex c xs ρ η) = .ex c xs ρ η := id rfl
theorem mk_nil : maskE [] ρ = ρ := by unfold maskE; rfl
theorem mk_t : maskE (true :: M) (od :: ρ) = od :: maskE M ρ := by rw [maskE]
theorem mk_f : maskE (false :: M) (od :: ρ) = none :: maskE M ρ := by rw [maskE]
theorem tp_nil : topE [] = 0 := id rfl
theorem tp_none : topE (none :: ρ) = topE ρ := by rw [topE]
theorem tp_p : topE (some (.p x) :: ρ) = topE ρ := by rw [topE]
theorem tp_xv : topE (some (.xv c xs) :: ρ) = topE ρ := by rw [topE]
theorem tp_ref : topE (some (.ref n) :: ρ) = max (n + 1) (topE ρ) := by rw [topE]
def cutI : Bool → RH → RH → RH
  | true, a, _ => a
  | false, _, b => b
theorem e_cut : cutH k η = cutI ((η.take k).all flatO) (η.take k) η := by unfold cutH cutI; cases (η.take k).all flatO <;> rfl
theorem cut_t : cutI true η η' = η := id rfl
theorem tk_0 {α : Type} {l : List α} : l.take 0 = [] := List.take_zero
theorem tk_nil {α : Type} : ([] : List α).take n = [] := List.take_nil
theorem tk_S {α : Type} {a : α} {l : List α} : (a :: l).take (n + 1) = a :: l.take n := List.take_succ_cons
theorem al_nil {f : Ob → Bool} : ([] : RH).all f = true := id rfl
theorem al_cons {f : Ob → Bool} : (o :: η).all f = (f o && η.all f) := id rfl
theorem fo_ls : flatO (.ls xs) = true := id rfl
theorem fo_dc : flatO (.dc ks) = true := id rfl
theorem fo_fz : flatO (.fz ks) = true := id rfl
theorem fo_go : flatO .gone = true := id rfl
theorem fo_dt : flatO (.dt kt) = true := id rfl
theorem fo_hd : flatO (hand vs k) = true := id rfl
theorem bo_tt : (true && true) = true := id rfl
theorem mx_def {a b : Nat} : max a b = if a ≤ b then b else a := Nat.max_def ..
end
end ML
set_option Elab.async false
set_option linter.all false
set_option maxRecDepth 100000
set_option maxHeartbeats 1000000
namespace ML
open PySem L2
structure okN (n : Nat) (x : P) : Prop where
  nf : noFi x = true
  cl : (toPy x).canLay0 = true
  dp : (toPy x).depth ≤ n
def eqvL : List P → List P → Bool
  | [], [] => true
  | x :: xs, y :: ys => eqvP x y && eqvL xs ys
  | _, _ => false
section
variable {n m : Nat} {x y : P} {xs ys : List P} {i j : Int} {s u : Str} {b c : Bool}
theorem okN.ok (h : okN n x) (hn : n ≤ 64 := by decide) : okP x = true := by
  unfold okP SeqAt.shaped
  rw [h.nf, h.cl, decide_eq_true (Nat.le_trans h.dp hn)]
  rfl
theorem okN.up (h : okN n x) (hn : n ≤ m) : okN m x := ⟨h.nf, h.cl, Nat.le_trans h.dp hn⟩
theorem okN_int : okN 1 (.int i) := ⟨by unfold noFi; rfl, by unfold toPy PyData.canLay0; rfl, by unfold toPy PyData.depth; decide⟩
theorem okN_str (h : okP (.str s) = true) : okN 1 (.str s) := by
  refine ⟨by unfold noFi; rfl, ?_, by unfold toPy PyData.depth; decide⟩
  unfold okP SeqAt.shaped at h
  simp only [Bool.and_eq_true] at h
  exact h.2.1
theorem okL (h : ∀ x ∈ xs, okN n x) : noFiL xs = true ∧ PyData.canLayAll0 (toPyL xs) = true ∧ PyData.depthAll (toPyL xs) ≤ n := by
  induction xs with
  | nil => exact ⟨by unfold noFiL; rfl, by unfold toPyL PyData.canLayAll0; rfl, by unfold toPyL PyData.depthAll; exact Nat.zero_le _⟩
  | cons x xs ih =>
    obtain ⟨h1, h2, h3⟩ := ih fun y hy => h y (List.mem_cons_of_mem _ hy)
    obtain ⟨g1, g2, g3⟩ := h x List.mem_cons_self
    refine ⟨by unfold noFiL; rw [g1, h1]; rfl, by unfold toPyL PyData.canLayAll0; rw [g2, h2]; rfl, ?_⟩
    unfold toPyL PyData.depthAll
    exact Nat.max_le.mpr ⟨g3, h3⟩
theorem okN_tup (h : ∀ x ∈ xs, okN n x) : okN (n + 1) (.tup xs) := by
  obtain ⟨h1, h2, h3⟩ := okL h
  exact ⟨by unfold noFi; exact h1, by unfold toPy PyData.canLay0; exact h2, by unfold toPy PyData.depth; omega⟩
theorem eqvL_eq : ∀ {xs ys : List P}, PyData.eqvAll (toPyL xs) (toPyL ys) = eqvL xs ys
  | [], [] => by unfold toPyL PyData.eqvAll eqvL; rfl
  | [], _ :: _ => by unfold toPyL PyData.eqvAll eqvL; rfl
  | _ :: _, [] => by unfold toPyL PyData.eqvAll eqvL; rfl
  | x :: xs, y :: ys => by
    unfold toPyL PyData.eqvAll eqvL
    rw [eqvL_eq]
    rfl
theorem eqv_tup : eqvP (.tup xs) (.tup ys) = eqvL xs ys := by
  unfold eqvP toPy PyData.eqv
  exact eqvL_eq
theorem eqg_t (h1 : okN n x) (h2 : okN m y) (hn : n ≤ 64 := by decide) (hm : m ≤ 64 := by decide) : eqG false x y = some (.bl (eqvP x y)) := eqg_ok (h1.ok hn) (h2.ok hm)
theorem neg_t (h1 : okN n x) (h2 : okN m y) (hn : n ≤ 64 := by decide) (hm : m ≤ 64 := by decide) : eqG true x y = some (.bl (!eqvP x y)) := neg_ok (h1.ok hn) (h2.ok hm)
theorem okN_pair {a b : Int} : okN 2 (.tup [.int a, .int b]) := okN_tup fun x hx => by
  simp only [List.mem_cons, List.not_mem_nil, or_false] at hx
  rcases hx with rfl | rfl <;> exact okN_int
theorem g_eqPair {a b c d : Int} : eqG false (.tup [.int a, .int b]) (.tup [.int c, .int d]) = some (.bl (decide (a = c) && decide (b = d))) := by
  rw [eqg_t okN_pair okN_pair, eqv_tup]
  simp only [eqvL, eqv_int, Bool.and_true]
theorem g_nePair {a b c d : Int} : eqG true (.tup [.int a, .int b]) (.tup [.int c, .int d]) = some (.bl (!(decide (a = c) && decide (b = d)))) := by
  rw [neg_t okN_pair okN_pair, eqv_tup]
  simp only [eqvL, eqv_int, Bool.and_true]
end
section
variable {α : Type} {x0 x1 x2 x3 x4 x5 x6 x7 x8 x9 x10 x11 : P} {x y z : α} {l : List α}
theorem fl60_5 : flG [x0, x1, x2, x3, x4] = some (.fl [x0, x1, x2, x3, x4]) := id rfl
theorem fl60_6 : flG [x0, x1, x2, x3, x4, x5] = some (.fl [x0, x1, x2, x3, x4, x5]) := id rfl
theorem fl60_7 : flG [x0, x1, x2, x3, x4, x5, x6] = some (.fl [x0, x1, x2, x3, x4, x5, x6]) := id rfl
theorem fl60_8 : flG [x0, x1, x2, x3, x4, x5, x6, x7] = some (.fl [x0, x1, x2, x3, x4, x5, x6, x7]) := id rfl
theorem fl60_9 : flG [x0, x1, x2, x3, x4, x5, x6, x7, x8] = some (.fl [x0, x1, x2, x3, x4, x5, x6, x7, x8]) := id rfl
theorem fl60_10 : flG [x0, x1, x2, x3, x4, x5, x6, x7, x8, x9] = some (.fl [x0, x1, x2, x3, x4, x5, x6, x7, x8, x9]) := id rfl
theorem fl60_11 : flG [x0, x1, x2, x3, x4, x5, x6, x7, x8, x9, x10] = some (.fl [x0, x1, x2, x3, x4, x5, x6, x7, x8, x9, x10]) := id rfl
theorem fl60_12 : flG [x0, x1, x2, x3, x4, x5, x6, x7, x8, x9, x10, x11] = some (.fl [x0, x1, x2, x3, x4, x5, x6, x7, x8, x9, x10, x11]) := id rfl
theorem tp60_6 : tupG [x0, x1, x2, x3, x4, x5] = some (.tup [x0, x1, x2, x3, x4, x5]) := id rfl
theorem tp60_7 : tupG [x0, x1, x2, x3, x4, x5, x6] = some (.tup [x0, x1, x2, x3, x4, x5, x6]) := id rfl
theorem c3t0 : cutP [x, y, z] none (some 0) = [] := id rfl
theorem c3t1 : cutP [x, y, z] none (some 1) = [x] := id rfl
theorem c3t2 : cutP [x, y, z] none (some 2) = [x, y] := id rfl
theorem c3d1 : cutP [x, y, z] (some 1) none = [y, z] := id rfl
theorem c3d2 : cutP [x, y, z] (some 2) none = [z] := id rfl
theorem c3d3 : cutP [x, y, z] (some 3) none = [] := id rfl
theorem cd1 : cutP l (some 1) none = l.drop 1 := by
  unfold cutP
  have e : HT.sIx l.length 0 (some 1) = min 1 l.length := HT.sIx_nat l.length 0 1
  rw [HT.sIx_none, e]
  rcases Nat.le_total 1 l.length with h | h
  · rw [Nat.min_eq_left h, List.take_of_length_le (by rw [List.length_drop]; exact Nat.le_refl _)]
  · rw [Nat.min_eq_right h, Nat.sub_self, List.take_zero, List.drop_of_length_le h]
end
end ML
set_option Elab.async false
set_option linter.all false
set_option maxRecDepth 100000
set_option maxHeartbeats 1000000
namespace L2
open PySem PySem.Spec PyProof.Rows
section
variable {X : Cx} {CX : CXT} {pins : List (Addr × Obj)} {σ : St} {H : Hp} {s : Shared} {h : Heap} {P : Program} {w : World} {a C dx : Addr} {fs : List (Str × V)} {f m : Str} {v : V} {A : Around} {E : Value → Shared → Prop}
theorem ins_getR (hok : HOk P w H h) (e : Rd H a (.ins C dx fs)) : ∃ mA, ObjM h a dx C mA ∧ (∀ f, RelO (fs.lookup f) (mA f)) := by
  obtain ⟨d, z, ne, ob, mA, n, r, q⟩ := (show ObjOk P w H h a (.ins C dx fs) from e.ok hok)
  exact ⟨mA, ⟨ob, n, ne⟩, r⟩
theorem getattr_okR {b : Bool} {Q : Value → Shared → Prop} (I : Inv X pins σ H s) (e : Rd H a (.ins C dx fs)) (c : Cls X.K C) (n : NoAttr X.K C f) (l : fs.lookup f = some v)
    (h : ∀ u s', Inv X pins σ H s' → RelV v u → Q u s') : wpAny (model X.prog X.w) A (getAttr (.ref a) f b) Q E s := by
  obtain ⟨mA, O, r⟩ := ins_getR I.hok e
  obtain ⟨u, hu, ru⟩ := RelO.some_of (v := v) (o := mA f) (by rw [← l]; exact r f)
  exact get_map I.kIn O (c.get f) c.hd n hu (handed_of ru) (h u _ (I.tok _) ru)
variable {e o : Expr} {es : List Expr} {ta : TE} {t : TA} {pos apos p : Pos} {x : Str} {k : Nat} {g : Addr} {fd : FuncData} {ps : List Str} {sp : Sp} {EE : St → XK}
def tFldR (K : PySem.W.Frag) (ta : TE) (f : Str) : TE := fun σ H Q => ta σ H fun x H1 => ∃ a C dx fs v, x = .ref a ∧ Rd H1 a (.ins C dx fs) ∧ Cls K C ∧ NoAttr K C f ∧ fs.lookup f = some v ∧ Q v H1
theorem pe_fldR (he : PE X e ta) (hb : attributeBase e f X.env (eval e X.env) = eval e X.env) : PE X (.Attribute e f pos) (tFldR X.K ta f) := by
  refine ⟨fun pins s σ H Q I h => ?_⟩
  refine attr_of hb (thn (he.run pins s σ H _ I h) fun u s1 ⟨x, H1, I1, rx, a, C, dx, fs, v, ex, ea, c, n, l, q⟩ => ?_)
  subst ex
  obtain rfl : u = Value.ref a := rx
  exact getattr_okR I1 ea c n l fun u' s2 I2 ru => ⟨v, H1, I2, ru, q⟩
def tMakeS (C : Addr) (sp : Sp) (E : St → XK) (t : TA) : TE := fun σ H Q => t σ H fun vs H1 => ∀ x dx, H1 x = none → H1 dx = none → dx ≠ x → sp (.ref x :: vs) (upd (upd H1 dx (.own x)) x (.ins C dx [])) (fun v H2 => v = .non ∧ Q (.ref x) H2) (E σ)
theorem run_makeS {Q : VK} {us : List Value} {vs : List V} (M : Mk X.K C g) (F : FnOk X.prog X.w X.K X.mg X.base CX k g fd ps sp) (hr : Room (k + 1) X.A) (hb : Binds X.K fd ps [])
    (hx : PassesAt CX X σ (EE σ)) (I : Inv X pins σ H s) (r : Vals vs us)
    (h : ∀ x dx, H x = none → H dx = none → dx ≠ x → sp (.ref x :: vs) (upd (upd H dx (.own x)) x (.ins C dx [])) (fun v H2 => v = .non ∧ Q (.ref x) H2) (EE σ)) :
    wpAny (model X.prog X.w) X.A (call (.ref C) us) (EP X pins σ Q) X.xe s := by
  have hq := h (s.heap.objs.size + 1) s.heap.objs.size (I.hok.fresh (Nat.le_succ _)) (I.hok.fresh (Nat.le_refl _)) (Nat.ne_of_lt (Nat.lt_succ_self _))
  have I2 := Inv.made (C := C) I
  have r2 : Vals (V.ref (s.heap.objs.size + 1) :: vs) (Value.ref (s.heap.objs.size + 1) :: us) := .cons rfl r
  have hl : (Value.ref (s.heap.objs.size + 1) :: us ++ []).length = ps.length := by
    have e := r2.length
    rw [F.len _ _ _ _ hq] at e
    rw [List.append_nil]
    exact e.symm
  have hbb := hb _ (Value.ref (s.heap.objs.size + 1) :: us) I2.kIn hl
  rw [List.append_nil] at hbb
  refine wpAny_call (make_map (f := g) I.kIn M.makes M.init (beq_iff_eq.mp M.fn) (codeAny_mono (F.run _ X.stack _ _ ⟨Value.ref (s.heap.objs.size + 1) :: us, []⟩ (Value.ref (s.heap.objs.size + 1) :: us) _ _ (EE σ) (hr.make C us [])
    (I2.env0.make C us []) hbb r2 hq) fun r s' hq' => ?_))
  cases r with
  | error e => exact hx pins _ _ e s' I2 hq'
  | ok fl =>
    cases fl with
    | ret u =>
      obtain ⟨v, H', I3, rv, ev, q3⟩ := I2.after hq'
      subst ev
      exact ⟨rv, ⟨V.ref (s.heap.objs.size + 1), H', I3, rfl, q3⟩⟩
    | next => exact False.elim hq'
    | brk => exact False.elim hq'
    | cont => exact False.elim hq'
theorem pe_makeS (M : Mk X.K C g) (F : FnOk X.prog X.w X.K X.mg X.base CX k g fd ps sp) (hr : Room (k + 1) X.A) (hg : Gl X x) (hm : X.mg x = some (.ref C)) (hb : Binds X.K fd ps []) (hx : ∀ σ, PassesAt CX X σ (EE σ))
    (ha : PA X (e :: es) t) (hdb : (x == ("__debug__" : Str)) = false := by decide) (he : starEach (e :: es) X.env = (false, eval e X.env) :: starEach es X.env := by rfl) (hpl : (backTo pos (starEach es X.env)).any (·.1) = false := by rfl) :
    PE X (.Call (.Name x p) (e :: es) [] pos) (tMakeS C sp EE t) := by
  refine ⟨fun pins s σ H Q I h => ?_⟩
  refine wpAny_Call_Name_kw (ld_glob I hg hm ?_ hdb)
  refine PySem.W.callWith_K (h₀ := X.base) I.ok.mod.kin M.kp (thn (ha.run pos pins s σ H _ I h) fun us s1 ⟨vs, H1, I1, r, q⟩ => ⟨I1.kIn, ?_⟩) he hpl
  exact run_makeS M F hr hb (hx σ) I1 r q
end
end L2
namespace ML
open PySem PySem.Spec PyProof.Rows L2
structure ClsG (G : Gd) (mg : Str → Option Value) (x : Str) (c : Nat) (fds : List Str) : Prop where
  at' : mg x = some (.ref (G.cls c))
  cl : Cls G.K (G.cls c)
  fl : G.flds c = fds
  no : ∀ f ∈ fds, NoAttr G.K (G.cls c) f
def HasIn (P' : Program) (w : World) (G : Gd) (mg : Str → Option Value) (base : Heap) (c : Nat) (qual : Str) (st : Stmt) (ps : List Str) (k : Nat) (sp : Sp) : Prop :=
  ∃ f fd, Fun G.K "__init__" qual st f fd ∧ FnOk P' w G.K mg base (L2.CX P' w) k f fd ps sp ∧ Mk G.K (G.cls c) f ∧ Binds G.K fd ps []
def InAt (K : PySem.W.Frag) (C : Addr) (qual : Str) (st : Stmt) (ps : List Str) : Prop := ∃ f fd, Fun K "__init__" qual st f fd ∧ Mk K C f ∧ Binds K fd ps []
section
variable {P' : Program} {w : World} {G : Gd} {mg : Str → Option Value} {base : Heap} {m qual : Str} {st : Stmt} {N ps : List Str} {k c : Nat} {s : SM}
theorem inS (F : InAt G.K (G.cls c) qual st ps) (S : FnScope N ps (defScope st))
    (hb : ∀ (f : Addr) (cdv : Value) (A : Around) (outer : List Env) (sh : Shared) (H : Hp) (E : XK), Ctx (bodyX P' w G.K mg base N qual st f cdv A outer sh H E) G (bodyW E) k → DSs (bodyX P' w G.K mg base N qual st f cdv A outer sh H E) G (bodyW E) (defBody st) s) :
    HasIn P' w G mg base c qual st ps (k + 1) (spS G ps.length (fnS N.length s)) := by
  obtain ⟨f, fd, F, m, b⟩ := F
  exact ⟨f, fd, F, okS F S (hb f), m, b⟩
end
section
variable {X : Cx} {G : Gd} {W : WX} {k j c : Nat} {a b e o : Expr} {ma mb m mo : EM} {am : AM} {pos p apos : Pos} {es : List Expr} {ps fds : List Str} {x nm qual f : Str} {st : Stmt}
theorem fld_at {G : Gd} {H : Hp} {fs : List (Str × V)} {c i : Nat} {xs : List P} {x : P} (hn : fs.map (·.1) = G.flds c) (r : RepL G H (fs.map (·.2)) xs) (hi : fldIx f (G.flds c) = some i) (hx : xs[i]? = some x) : ∃ v, fs.lookup f = some v ∧ Rep G H v x := by
  rw [← hn] at hi
  obtain ⟨v, h1, h2⟩ := fldIx_get hi
  obtain ⟨u, hu, ru⟩ := r.get hx
  rw [h2] at hu
  cases hu
  exact ⟨v, h1, ru⟩
def attR (f : Str) (ix : Nat → Option Nat) (η : RH) : D → Res D
  | .p (.fi c xs) => ofO ((ix c).bind fun i => xs[i]?) η
  | .ref n => match η[n]? with
    | some (.ins c fs) => if (ix c).isSome = true then (match fs.lookup f with
      | some d => .ok d η
      | none => .bad) else .bad
    | _ => .bad
  | _ => .bad
def attM (f : Str) (ix : Nat → Option Nat) (m : EM) : EM := fun ρ η => (m ρ η).bind fun d η => attR f ix η d
def IxOk (G : Gd) (f : Str) (ix : Nat → Option Nat) : Prop := ∀ c i, ix c = some i → Cls G.K (G.cls c) ∧ NoAttr G.K (G.cls c) f ∧ fldIx f (G.flds c) = some i
theorem lookup_rep {G : Gd} {H : Hp} {μ : List Addr} : ∀ {gs : List (Str × V)} {fs : List (Str × D)} {d : D}, gs.map (·.1) = fs.map (·.1) → RepDs G H μ (gs.map (·.2)) (fs.map (·.2)) → fs.lookup f = some d → ∃ v, gs.lookup f = some v ∧ RepD G H μ v d
  | [], [], d, _, _, h => by cases h
  | (g, v) :: gs, (g', d') :: fs, d, e, r, h => by
    simp only [List.map_cons, List.cons.injEq] at e
    obtain ⟨rfl, e⟩ := e
    rw [List.lookup_cons] at h ⊢
    cases hb : f == g with
    | true =>
      rw [hb] at h
      cases h
      exact ⟨v, rfl, r.1⟩
    | false =>
      rw [hb] at h
      exact lookup_rep e r.2 h
  | [], _ :: _, _, e, _, _ => by simp at e
  | _ :: _, [], _, e, _, _ => by simp at e
theorem de_att {ix : Nat → Option Nat} (c : Ctx X G W k) (hI : IxOk G f ix) (he : DE X G W e m) (hb : attributeBase e f X.env (eval e X.env) = eval e X.env := by rfl) : DE X G W (.Attribute e f pos) (attM f ix m) :=
  iE (pe_fldR he hb) fun σ H Q h => by
    obtain ⟨ρ, η, μ, E, HR, h⟩ := h
    refine bindE E HR h fun v H1 μ1 d η1 E1 HR1 r1 t1 h1 => ?_
    cases d with
    | xv c xs => exact h1.elim
    | p y =>
      cases y <;> first | exact h1.elim | skip
      rename_i c0 xs
      obtain ⟨z, ez, q⟩ := ofO_fin HR1 h1
      obtain ⟨i, hi, hx⟩ := Option.bind_eq_some_iff.mp ez
      obtain ⟨g1, g2, g3⟩ := hI c0 i hi
      have r1 : Rep G H1 v (.fi c0 xs) := r1
      unfold Rep at r1
      obtain ⟨p, dx, ob, fs, rfl, hp, hn, rl⟩ := r1
      obtain ⟨u, hu, ru⟩ := fld_at hn rl g3 hx
      rw [c.hK]
      exact ⟨p, _, dx, fs, u, rfl, .inr ⟨ob, hp⟩, g1, g2, hu, q u H1 (Same.refl H1) ru⟩
    | ref n =>
      obtain ⟨a, ha, rfl⟩ := r1
      unfold attR at h1
      simp only at h1
      cases ho : η1[n]? with
      | none => rw [ho] at h1; exact h1.elim
      | some ob =>
        rw [ho] at h1
        cases ob <;> first | exact h1.elim | skip
        rename_i c0 fs
        simp only at h1
        split at h1
        · rename_i hs
          obtain ⟨i, hi⟩ := Option.isSome_iff_exists.mp hs
          obtain ⟨g1, g2, g3⟩ := hI c0 i hi
          cases hl : fs.lookup f with
          | none => rw [hl] at h1; exact h1.elim
          | some d =>
            rw [hl] at h1
            obtain ⟨dx, gs, hg, en, rr⟩ := HR1.ob n a _ ha ho
            obtain ⟨u, hu, ru⟩ := lookup_rep en rr hl
            rw [c.hK]
            exact ⟨a, _, dx, gs, u, rfl, .inl hg, g1, g2, hu, (show FinE G W σ Q H1 μ1 (.ok d η1) from h1) u H1 μ1 Tr.refl ru HR1⟩
        · exact h1.elim
end
end ML
set_option Elab.async false
set_option linter.all false
set_option maxRecDepth 100000
set_option maxHeartbeats 1000000
namespace ML
open PySem PySem.Spec PyProof.Rows L2
theorem pe_frzI {X : Cx} {e : Expr} {t : TE} (h : PE X e t) : PE X e (fun σ H Q => t σ H fun v H1 => (∃ p u, v = .ref p ∧ H1 p = some u ∧ Mut (some u) ∧ ∀ o, Q v (upd H1 p (.frz o u)))) := by
  refine ⟨fun pins s σ H Q I q => thn (h.run pins s σ H _ I q) fun u s1 ⟨v, H1, I1, r1, p, xs, e, hp, mu, q1⟩ => ?_⟩
  obtain ⟨od, I2⟩ := I1.lock hp mu
  exact ⟨v, _, I2, r1, q1 od⟩
def mkK (c : Nat) (fds : List Str) : Res D → PRes
  | .ok (.p .non) (.ins c' fs :: _) => if c' = c ∧ fs.map (·.1) = fds then (match asPs (fs.map (·.2)) with
    | some ys => .ok (.fi c ys)
    | none => .bad) else .bad
  | .ex k ys _ => .ex k ys
  | _ => .bad
def mkP (c : Nat) (fds : List Str) (F : FS) : FP := fun xs => mkK c fds (F (.ref 0 :: xs.map .p) [.ins c []])
section
variable {X : Cx} {G : Gd} {W : WX} {k j c : Nat} {a b e o : Expr} {ma mb m mo : EM} {am : AM} {pos p apos : Pos} {es : List Expr} {ps fds : List Str} {x nm qual f : Str} {st : Stmt}
theorem repDs_p {H : Hp} {μ : List Addr} : ∀ {vs : List V} {xs : List P}, RepL G H vs xs → RepDs G H μ vs (xs.map .p)
  | vs, [], r => by rw [r.nil_inv]; trivial
  | vs, x :: xs, r => by
    obtain ⟨v, ws, rfl, r1, r2⟩ := r.cons_inv
    exact ⟨r1, repDs_p r2⟩
theorem make_fin {H1 : Hp} {Q : VK} {E : XK} {vs : List V} {xs : List P} {F : FS} {ad dx : Addr} (hfl : G.flds c = fds) (rl : RepL G H1 vs xs) (n1 : H1 ad = none) (n2 : H1 dx = none) (ne : dx ≠ ad) (fin : FinP G H1 Q E (mkP c fds F xs)) (hl : (V.ref ad :: vs).length = ps.length) :
    spS G ps.length F (.ref ad :: vs) (upd (upd H1 dx (.own ad)) ad (.ins (G.cls c) dx [])) (fun v H2 => v = .non ∧ ∃ p u, V.ref ad = .ref p ∧ H2 p = some u ∧ Mut (some u) ∧ ∀ o, Q (.ref ad) (upd H2 p (.frz o u))) E := by
  have s0 : Same H1 (upd (upd H1 dx (.own ad)) ad (.ins (G.cls c) dx [])) := fun b o h => by
    rw [upd_ne (ne_of_none h n1), upd_ne (ne_of_none h n2)]
    exact h
  have HR0 : HeapRep G (upd (upd H1 dx (.own ad)) ad (.ins (G.cls c) dx [])) [ad] [.ins c []] := by
    refine ⟨rfl, by simp, fun n b o h1 h2 => ?_⟩
    cases n with
    | succ n => simp at h1
    | zero =>
      cases h1
      cases h2
      exact ⟨dx, [], upd_same, rfl, trivial⟩
  refine ⟨hl, .ref 0 :: xs.map .p, [.ins c []], [ad], ⟨⟨ad, rfl, rfl⟩, repDs_p (RepL.mono (Same.imm s0) _ rl)⟩, HR0, ?_⟩
  unfold mkP at fin
  have key : ∀ {H' : Hp} {μ' : List Addr}, Tr (upd (upd H1 dx (.own ad)) ad (.ins (G.cls c) dx [])) [ad] H' μ' → Same H1 H' := fun {H' μ'} t b o h => by
    refine t.fr b o (s0 b o h) fun hm => ?_
    rw [List.mem_singleton.mp hm] at h
    rw [n1] at h
    cases h
  generalize F (.ref 0 :: xs.map .p) [.ins c []] = r at fin
  cases r with
  | bad => exact fin.elim
  | ex cc ys η' => exact fun d H' μ' t ex hr => fin d H' (key t) ex
  | ok d η' =>
    cases d with
    | ref n => exact fin.elim
    | xv c xs => exact fin.elim
    | p y =>
      cases y <;> first | exact fin.elim | skip
      cases η' with
      | nil => exact fin.elim
      | cons ob η' =>
        cases ob <;> first | exact fin.elim | skip
        rename_i c' fs
        have fin : FinP G H1 Q E (if c' = c ∧ fs.map (·.1) = fds then (match asPs (fs.map (·.2)) with
          | some ys => .ok (.fi c ys)
          | none => .bad) else .bad) := fin
        split at fin
        · rename_i hcf
          obtain ⟨rfl, hn⟩ := hcf
          cases ea : asPs (fs.map (·.2)) with
          | none => rw [ea] at fin; exact fin.elim
          | some ys =>
            rw [ea] at fin
            intro v H' μ' t rv hr
            have rv : Rep G H' v .non := rv
            unfold Rep at rv
            have hm : μ'[0]? = some ad := t.get rfl
            obtain ⟨dx', gs, hg, en, rr⟩ := hr.ob 0 ad _ hm rfl
            refine ⟨rv, ad, _, rfl, hg, trivial, fun o => ?_⟩
            refine fin _ _ (fun b u h => ?_) ?_
            · rw [upd_ne (ne_of_none h n1)]
              exact key t b u h
            · have im : Imm H' (upd H' ad (.frz o (.ins (G.cls c') dx' gs))) := Imm.upd hg rfl
              unfold Rep
              exact ⟨ad, dx', o, gs, rfl, upd_same, by rw [en, hn, hfl], RepL.mono im _ (asPs_rep ea rr)⟩
        · exact fin.elim
theorem de_make {F : FS} (cx : Ctx X G W k) (hc : ClsG G X.mg x c fds) (h : HasIn X.prog X.w G X.mg X.base c qual st ps j (spS G ps.length F)) (ha : DA X G W (e :: es) am) (n : Nat) (hn : n + 1 = ps.length := by rfl) (hj : j + 1 ≤ k := by decide) (hg : Gl X x := by rfl)
    (hdb : (x == ("__debug__" : Str)) = false := by decide) (he : starEach (e :: es) X.env = (false, eval e X.env) :: starEach es X.env := by rfl) (hpl : (backTo pos (starEach es X.env)).any (·.1) = false := by rfl) :
    DE X G W (.Call (.Name x p) (e :: es) [] pos) (callP (arity n (mkP c fds F)) am) := by
  obtain ⟨f, fd, fn, ok, hm, hb⟩ := h
  rw [← cx.hK] at ok hm hb
  have hr : Room (j + 1) X.A := cx.hr.mono hj
  refine iE (pe_frzI (pe_makeS (EE := WE W) hm ok hr hg hc.at' hb (fun σ => passAt cx.tk σ) ha hdb he hpl)) fun σ H Q h => ?_
  obtain ⟨ρ, η, μ, E, HR, h⟩ := h
  refine bindA E HR h fun vs H1 μ1 ds η1 E1 HR1 r1 t1 h1 => ?_
  cases ex : asPs ds with
  | none => rw [ex] at h1; exact h1.elim
  | some xs =>
    rw [ex] at h1
    have rl := asPs_rep ex r1
    have fin : FinP G H1 Q (WE W σ) (arity n (mkP c fds F) xs) := by
      simp only at h1
      cases eF : arity n (mkP c fds F) xs with
      | ok y =>
        rw [eF] at h1
        exact fun v H' s r => h1 v H' μ1 (Tr.same s) r (HR1.same s)
      | ex c ys =>
        rw [eF] at h1
        exact fun d H' s r => h1 d H' μ1 (Tr.same s) r (HR1.same s)
      | bad => rw [eF] at h1; exact h1.elim
    unfold arity at fin
    split at fin
    · rename_i hl
      intro ad dx n1 n2 ne
      exact make_fin hc.fl rl n1 n2 ne fin (by rw [List.length_cons, rl.length, hl, hn])
    · exact fin.elim
def putD (f : Str) (y : D) : List (Str × D) → List (Str × D)
  | [] => [(f, y)]
  | (g, x) :: r => if g = f then (g, y) :: r else (g, x) :: putD f y r
theorem put_names (f : Str) (v : V) (y : D) : ∀ {gs : List (Str × V)} {fs : List (Str × D)}, gs.map (·.1) = fs.map (·.1) → (putF f v gs).map (·.1) = (putD f y fs).map (·.1)
  | [], [], _ => rfl
  | (g, x) :: gs, (g', x') :: fs, e => by
    simp only [List.map_cons, List.cons.injEq] at e
    obtain ⟨rfl, e⟩ := e
    unfold putF putD
    split
    · simp [e]
    · simp [put_names f v y e]
  | [], _ :: _, e => by simp at e
  | _ :: _, [], e => by simp at e
theorem put_rep {H : Hp} {μ : List Addr} {f : Str} {v : V} {y : D} (r : RepD G H μ v y) : ∀ {gs : List (Str × V)} {fs : List (Str × D)}, gs.map (·.1) = fs.map (·.1) → RepDs G H μ (gs.map (·.2)) (fs.map (·.2)) → RepDs G H μ ((putF f v gs).map (·.2)) ((putD f y fs).map (·.2))
  | [], [], _, _ => ⟨r, trivial⟩
  | (g, x) :: gs, (g', x') :: fs, e, rr => by
    simp only [List.map_cons, List.cons.injEq] at e
    obtain ⟨rfl, e⟩ := e
    unfold putF putD
    split
    · exact ⟨r, rr.2⟩
    · exact ⟨rr.1, put_rep r e rr.2⟩
  | [], _ :: _, e, _ => by simp at e
  | _ :: _, [], e, _ => by simp at e
def attO (f : Str) (oc : Nat → Bool) (η : RH) (y : D) : D → Option RH
  | .ref n => match η[n]? with
    | some (.ins c fs) => if oc c = true ∧ fs.length < 1000 then some (η.set n (.ins c (putD f y fs))) else none
    | _ => none
  | _ => none
def attS (f : Str) (oc : Nat → Bool) (mo me : EM) : SM := fun ρ η => ResS (me ρ η) ρ fun y η => ResS (mo ρ η) ρ fun d η => match attO f oc η y d with
  | some η => .nx ρ η
  | none => .bad
def OcOk (G : Gd) (f : Str) (oc : Nat → Bool) : Prop := ∀ c, oc c = true → Cls G.K (G.cls c) ∧ NoAttr G.K (G.cls c) f
theorem ds_att {oc : Nat → Bool} {pos' : Pos} (c : Ctx X G W k) (hO : OcOk G f oc) (ho : DE X G W o mo) (he : DE X G W e m) (hs : swapsWith e (some (.Attribute o f pos')) pos.line X.env = pure false := by rfl) : DS X G W (.Assign [.Attribute o f pos'] e pos) (attS f oc mo m) :=
  iS (ps_fld ho he hs) fun D σ H h => by
    obtain ⟨ρ, η, μ, E, HR, h⟩ := h
    refine bindSE E HR h fun vy H1 μ1 y η1 E1 HR1 r1 t1 h1 => ?_
    refine bindSE E1 HR1 h1 fun vo H2 μ2 d η2 E2 HR2 r2 t2 h2 => ?_
    cases d with
    | p x => exact h2.elim
    | xv c xs => exact h2.elim
    | ref n =>
      obtain ⟨a, ha, rfl⟩ := r2
      unfold attO at h2
      simp only at h2
      cases ho : η2[n]? with
      | none => simp only [ho] at h2; exact h2.elim
      | some ob =>
        simp only [ho] at h2
        cases ob <;> first | exact h2.elim | skip
        rename_i c0 fs
        simp only at h2
        split at h2
        · rename_i η3 he
          split at he
          · rename_i hc
            cases he
            obtain ⟨g1, g2⟩ := hO c0 hc.1
            obtain ⟨dx, gs, hg, en, rr⟩ := HR2.ob n a _ ha ho
            have hmem : a ∈ μ2 := List.mem_of_getElem? ha
            rw [c.hK]
            refine ⟨a, _, dx, gs, rfl, hg, g1, g2, by have := congrArg List.length en; simp only [List.length_map] at this; omega, ?_⟩
            exact h2 σ _ μ2 (Tr.own hmem hg rfl) (E2.mono (Tr.own hmem hg rfl)) (HR2.put ha hg rfl ⟨dx, _, upd_same, put_names f vy y en, put_rep ((r1.mono t2).upd hg rfl) en (rr.upd hg rfl)⟩)
          · cases he
        · exact h2.elim
end
theorem ixc_nil {G : Gd} {f : Str} : IxOk G f (ixL []) := fun _ _ h => nomatch h
theorem ixc_cons {G : Gd} {mg : Str → Option Value} {f x : Str} {c i : Nat} {fds : List Str} {l : List (Nat × Nat)} (hc : ClsG G mg x c fds) (hf : f ∈ fds) (hi : fldIx f fds = some i) (t : IxOk G f (ixL l)) : IxOk G f (ixL ((c, i) :: l)) := fun n j e => by
  unfold ixL at e
  rw [List.lookup_cons] at e
  cases hb : n == c with
  | true =>
    rw [hb] at e
    have : n = c := eq_of_beq hb
    subst this
    cases e
    exact ⟨hc.cl, hc.no f hf, by rw [hc.fl]; exact hi⟩
  | false =>
    rw [hb] at e
    exact t n j e
def ocL (l : List Nat) (n : Nat) : Bool := l.contains n
theorem oc_one {G : Gd} {mg : Str → Option Value} {f x : Str} {c : Nat} {fds : List Str} (hc : ClsG G mg x c fds) (hf : f ∈ fds) : OcOk G f (ocL [c]) := fun n h => by
  have : n = c := by simpa [ocL] using h
  subst this
  exact ⟨hc.cl, hc.no f hf⟩
section
open PySem.W
structure ClsAt (K : Frag) (mg : Str → Option Value) (x : Str) (C : Addr) (fds : List Str) : Prop where
  at' : mg x = some (.ref C)
  cl : Cls K C
  no : ∀ f ∈ fds, NoAttr K C f
def NoAll (K : Frag) (C : Addr) : List Str → Prop
  | [] => True
  | f :: fs => findIn K (.ref C) f = some none ∧ NoAll K C fs
theorem NoAll.all {K : Frag} {C : Addr} : ∀ {fs : List Str}, NoAll K C fs → ∀ f ∈ fs, NoAttr K C f
  | [], _, _, h => nomatch h
  | g :: gs, h, f, hf => by
    rcases List.mem_cons.mp hf with rfl | hf
    · exact h.1
    · exact NoAll.all h.2 f hf
theorem use_cls {K : Frag} {h : Heap} {mg : Str → Option Value} (X : K.In h) (G : h.Ns mainGlobals mg) (x : Str) (fds : List Str) {C : Addr} {goal : Prop} (a : nsIn K mainGlobals x = some (some (.ref C)))
    (pg : plainGet K C Str.empty = true) (hd : hasDictIn K C = true) (po : plainOver K C = true) (sa : findIn K (.ref C) "__setattr__" = some (some (.builtin "object.__setattr__"))) (no : NoAll K C fds) (n : ClsAt K mg x C fds → goal) : goal :=
  n ⟨mg_of X G a, ⟨pg, hd, po, sa⟩, no.all⟩
theorem use_in {K : Frag} {C : Addr} (qual : Str) (st : Stmt) (ps : List Str)
    (b : ∀ (kV doc pm : Value) (an : Option Addr) (cdv ct : Value) (us : List Value), us.length = ps.length → bindArgs (fnOf "__init__" qual (defArgs st) (defBody st) (defScope st) .none kV doc pm an cdv ct) ⟨us, []⟩ = pure (ps.zip us))
    {f : Addr} {oc : Value} {od an : Option Addr} {osl : Array (Option Value)} {kV doc pm cdv ct : Value} {goal : Prop}
    (a : findIn K (.ref C) "__init__" = some (some (.ref f))) (i : isFn K (.ref f) = true) (l : K.lookup f = some ⟨oc, od, .func (fnOf "__init__" qual (defArgs st) (defBody st) (defScope st) .none kV doc pm an cdv ct), osl⟩) (c : codeIn K cdv qual = true) (k : keepIn K (.ref f) = true)
    (mk : makesIn K C = true) (kc : keepIn K (.ref C) = true) (n : InAt K C qual st ps → goal) : goal := n ⟨f, _, fun_mk l c k, ⟨mk, a, i, kc⟩, (fun_mk l c k).binds b⟩
theorem ClsAt.g {K : Frag} {mg : Str → Option Value} {x : Str} {C : Addr} {fds : List Str} {cls : Nat → Addr} {flds : Nat → List Str} {hot : Option Hot} {hsh : NestedKey → Int} (c : Nat) (h : ClsAt K mg x C fds) (hc : cls c = C) (hf : flds c = fds) : ClsG ⟨K, cls, flds, hot, hsh⟩ mg x c fds := by
  subst hc
  exact ⟨h.at', h.cl, hf, h.no⟩
end
end ML
set_option Elab.async false
set_option linter.all false
set_option maxRecDepth 100000
set_option maxHeartbeats 1000000
namespace ML
open PySem PySem.Spec PyProof.Rows L2
def isi2P (T1 T2 : String) : P → Option P
  | .fi _ _ => none
  | x => (kitB (tyP x) T1).bind fun b1 => (kitB (tyP x) T2).map fun b2 => .bl (b1 || b2)
def isiT2 (T1 T2 : String) (m : EM) : EM := fun ρ η => (m ρ η).bind fun d η => ofO ((view η d).bind (isi2P T1 T2)) η
section
variable {X : Cx} {G : Gd} {W : WX} {k : Nat} {e : Expr} {m : EM} {pos : Pos}
theorem de_isi2 {T T' : Str} {TT TT' : String} {p p2 p3 pt : Pos} {kk : Nat} (c : Ctx X G W k) (hg : Gl X "isinstance") (hm : X.mg "isinstance" = none) (hgT : Gl X T) (hmT : X.mg T = none) (hvT : bootBuiltins T = some (.type TT)) (hgT' : Gl X T') (hmT' : X.mg T' = none) (hvT' : bootBuiltins T' = some (.type TT')) (ha : DE X G W e m)
    (hs3 : starEach [Expr.Name T' p3] X.env = [(false, eval (.Name T' p3) X.env)] := by rfl) (hs4 : starEach [Expr.Name T p2, Expr.Name T' p3] X.env = (false, eval (.Name T p2) X.env) :: starEach [Expr.Name T' p3] X.env := by rfl)
    (hs2 : starEach [Expr.Tuple [.Name T p2, .Name T' p3] kk pt] X.env = [(false, eval (.Tuple [.Name T p2, .Name T' p3] kk pt) X.env)] := by rfl) (hs1 : starEach [e, Expr.Tuple [.Name T p2, .Name T' p3] kk pt] X.env = (false, eval e X.env) :: starEach [Expr.Tuple [.Name T p2, .Name T' p3] kk pt] X.env := by rfl)
    (hpl : (backTo pos (starEach [Expr.Tuple [.Name T p2, .Name T' p3] kk pt] X.env)).any (·.1) = false := by rfl) (hnT : T ≠ "__name__" := by decide) (hdT : (T == ("__debug__" : Str)) = false := by decide) (hnT' : T' ≠ "__name__" := by decide) (hdT' : (T' == ("__debug__" : Str)) = false := by decide) :
    DE X G W (.Call (.Name "isinstance" p) [e, .Tuple [.Name T p2, .Name T' p3] kk pt] [] pos) (isiT2 TT TT' m) := by
  have hT : PE X (.Name T p2) (tC (.ty TT)) := ⟨fun pins s σ H Q I h => ld_blt I hgT hmT hvT ⟨.ty TT, H, I, rfl, h⟩ hnT hdT⟩
  have hT' : PE X (.Name T' p3) (tC (.ty TT')) := ⟨fun pins s σ H Q I h => ld_blt I hgT' hmT' hvT' ⟨.ty TT', H, I, rfl, h⟩ hnT' hdT'⟩
  have hU : PE X (.Tuple [.Name T p2, .Name T' p3] kk pt) _ := pe_tup (L2.pa_cons hT (L2.pa_cons hT' L2.pa_nil hs3) hs4)
  have hA := L2.pa_cons (X := X) ha (L2.pa_cons hU L2.pa_nil hs2) hs1
  refine iE (pe_callB call_isiT hg hm (by decide +kernel) hA (by decide) (by decide) hs1 hpl) fun σ H Q h => ?_
  obtain ⟨ρ, η, μ, E, HR, h⟩ := h
  refine bindE E HR h fun v H1 μ1 d η1 E1 HR1 r1 t1 h1 => ?_
  obtain ⟨z, e, q⟩ := ofO_fin HR1 h1
  cases ex : view η1 d with
  | none => rw [ex] at e; cases e
  | some y =>
    rw [ex, Option.bind_some] at e
    have rv := viewRep HR1 r1 ex
    refine ⟨le60 (by simp), fun tp htp => ?_⟩
    have rv2 : RepV G (upd H1 tp (.tup [.ty TT, .ty TT'])) v y := viewRep (HR1.same (Same.up htp)) (r1.mono (Tr.same (Same.up htp))) ex
    have main : ∀ (hf : ∀ c xs, y ≠ .fi c xs), ((kitB (tyP y) TT).bind fun b1 => (kitB (tyP y) TT').map fun b2 => P.bl (b1 || b2)) = some z → rIsiT X.K [v, .ref tp] (upd H1 tp (.tup [.ty TT, .ty TT'])) Q := fun hf e => by
      cases ek : kitB (tyP y) TT with
      | none => rw [ek] at e; cases e
      | some b1 =>
        rw [ek, Option.bind_some] at e
        cases ek2 : kitB (tyP y) TT' with
        | none => rw [ek2] at e; cases e
        | some b2 =>
          rw [ek2] at e
          cases e
          refine ⟨v, tp, [.ty TT, .ty TT'], .type (tyP y), [.type TT, .type TT'], b1 || b2, rfl, upd_same, .cons (.ty TT) (.cons (.ty TT') .nil), ?_, ?_, q _ _ (Same.up htp) (Rep.bl _)⟩
          · rw [c.hK]
            exact tyx_of rv2 hf
          · refine kitAny_cons (kit_ty ek) (fun hb => kitAny_cons (kit_ty ek2) (fun hb2 => ?_) fun hb2 => ?_) fun hb => ?_
            · rw [hb, hb2]; rfl
            · rw [hb2, Bool.or_true]
            · rw [hb]; rfl
    cases y with
    | fi c xs => cases e
    | non => exact main (fun _ _ z => by cases z) e
    | bl _ => exact main (fun _ _ z => by cases z) e
    | int _ => exact main (fun _ _ z => by cases z) e
    | str _ => exact main (fun _ _ z => by cases z) e
    | tup _ => exact main (fun _ _ z => by cases z) e
    | fl _ => exact main (fun _ _ z => by cases z) e
end
theorem de_gintE {X : Cx} {G : Gd} {W : WX} {x : Str} {i : Int} {p : Pos} (hm : ∃ t, X.mg x = some (.int i t)) (hg : Gl X x := by rfl) (hd : (x == ("__debug__" : Str)) = false := by decide) : DE X G W (.Name x p) (cM (.int i)) := by
  obtain ⟨t, hm⟩ := hm
  exact de_gint hm hg hd
section
variable {ρ : LEnv} {η η' : RH} {d : D} {ds : List D} {x y : P} {xs : List P} {m mo me : EM} {am : AM} {f g : Str} {ix : Nat → Option Nat} {oc : Nat → Bool} {c c' n i : Nat} {fs : List (Str × D)} {F : FP} {FF : FS} {T1 T2 : String} {fds : List Str} {od : Option D}
def KAtt (f : Str) (ix : Nat → Option Nat) : Res D → Res D
  | .ok d η => attR f ix η d
  | .ex c xs η => .ex c xs η
  | .bad => .bad
theorem e_att : attM f ix m ρ η = KAtt f ix (m ρ η) := by unfold attM KAtt; cases m ρ η <;> rfl
theorem KAtt_ok : KAtt f ix (.ok d η) = attR f ix η d := id rfl
def ixP (o : Option Nat) (xs : List P) : Option P := match o with
  | some i => xs[i]?
  | none => none
theorem attR_fi : attR f ix η (.p (.fi c xs)) = ofO (ixP (ix c) xs) η := by
  show ofO ((ix c).bind fun i => xs[i]?) η = _
  unfold ixP
  cases ix c <;> rfl
theorem ixP_some : ixP (some i) xs = xs[i]? := id rfl
def lkR (o : Option D) (η : RH) : Res D := match o with
  | some d => .ok d η
  | none => .bad
def attO1 (f : Str) (ix : Nat → Option Nat) (η : RH) : Option Ob → Res D
  | some (.ins c fs) => if (ix c).isSome = true then lkR (fs.lookup f) η else .bad
  | _ => .bad
theorem attR_ref : attR f ix η (.ref n) = attO1 f ix η η[n]? := by
  show (match η[n]? with
    | some (.ins c fs) => if (ix c).isSome = true then (match fs.lookup f with
      | some d => .ok d η
      | none => .bad) else .bad
    | _ => .bad : Res D) = _
  cases η[n]? with
  | none => rfl
  | some o => cases o <;> rfl
theorem lkR_s : lkR (some d) η = .ok d η := id rfl
theorem fl_hit : List.lookup f ((f, d) :: fs) = some d := by rw [List.lookup_cons, beq_self_eq_true]
theorem e_isi2 : isiT2 T1 T2 m ρ η = K1 (isi2P T1 T2) (m ρ η) := by
  unfold isiT2 K1
  cases m ρ η with
  | ok d η1 => simp only [Res.bind_ok, app1] <;> cases view η1 d <;> rfl
  | _ => rfl
theorem e_mkP : mkP c fds FF xs = mkK c fds (FF (.ref 0 :: xs.map .p) [.ins c []]) := id rfl
theorem mkK_ex : mkK c fds (.ex n xs η) = .ex n xs := id rfl
def mkI (c : Nat) : Bool → Option (List P) → PRes
  | true, some ys => .ok (.fi c ys)
  | _, _ => .bad
theorem mkK_ok : mkK c fds (.ok (.p .non) (.ins c fs :: η)) = mkI c (decide (fs.map (·.1) = fds)) (asPs (fs.map (·.2))) := by
  show (if c = c ∧ fs.map (·.1) = fds then (match asPs (fs.map (·.2)) with
    | some ys => .ok (.fi c ys)
    | none => .bad) else .bad : PRes) = _
  by_cases h : fs.map (·.1) = fds
  · rw [if_pos ⟨rfl, h⟩, decide_eq_true h]; cases asPs (fs.map (·.2)) <;> rfl
  · rw [if_neg (fun z => h z.2), decide_eq_false h]; cases asPs (fs.map (·.2)) <;> rfl
theorem mkI_s {ys : List P} : mkI c true (some ys) = .ok (.fi c ys) := id rfl
def KAtS (f : Str) (oc : Nat → Bool) (mo : EM) (ρ : LEnv) : Res D → SRes
  | .ok y η => ResS (mo ρ η) ρ fun d η => match attO f oc η y d with
    | some η => .nx ρ η
    | none => .bad
  | .ex c xs η => .ex c xs ρ η
  | .bad => .bad
def atSR (ρ : LEnv) (o : Option RH) : SRes := match o with
  | some η => .nx ρ η
  | none => .bad
def KAtS2 (f : Str) (oc : Nat → Bool) (ρ : LEnv) (y : D) : Res D → SRes
  | .ok d η => atSR ρ (attO f oc η y d)
  | .ex c xs η => .ex c xs ρ η
  | .bad => .bad
theorem e_attS : attS f oc mo me ρ η = KAtS f oc mo ρ (me ρ η) := by unfold attS KAtS ResS; cases me ρ η <;> rfl
theorem KAtS_ok : KAtS f oc mo ρ (.ok d η) = KAtS2 f oc ρ d (mo ρ η) := by
  show ResS (mo ρ η) ρ (fun d' η => match attO f oc η d d' with
    | some η => .nx ρ η
    | none => .bad) = _
  unfold ResS KAtS2 atSR
  cases mo ρ η <;> rfl
theorem KAtS2_ok {d' : D} : KAtS2 f oc ρ d (.ok d' η) = atSR ρ (attO f oc η d d') := id rfl
theorem atSR_s : atSR ρ (some η) = .nx ρ η := id rfl
theorem is2_int {i : Int} : isi2P "list" "tuple" (.int i) = some (.bl false) := by
  show ((kitB "int" "list").bind fun b1 => (kitB "int" "tuple").map fun b2 => P.bl (b1 || b2)) = _
  rw [show kitB "int" "list" = some false by decide +kernel, show kitB "int" "tuple" = some false by decide +kernel]
  rfl
theorem is2_tup : isi2P "list" "tuple" (.tup xs) = some (.bl true) := by
  show ((kitB "tuple" "list").bind fun b1 => (kitB "tuple" "tuple").map fun b2 => P.bl (b1 || b2)) = _
  rw [show kitB "tuple" "list" = some false by decide +kernel, show kitB "tuple" "tuple" = some true by decide +kernel]
  rfl
theorem is2_fl : isi2P "list" "tuple" (.fl xs) = some (.bl true) := by
  show ((kitB "list" "list").bind fun b1 => (kitB "list" "tuple").map fun b2 => P.bl (b1 || b2)) = _
  rw [show kitB "list" "list" = some true by decide +kernel, show kitB "list" "tuple" = some false by decide +kernel]
  rfl
theorem is2_non : isi2P "list" "tuple" .non = some (.bl false) := by
  show ((kitB "NoneType" "list").bind fun b1 => (kitB "NoneType" "tuple").map fun b2 => P.bl (b1 || b2)) = _
  rw [show kitB "NoneType" "list" = some false by decide +kernel, show kitB "NoneType" "tuple" = some false by decide +kernel]
  rfl
def attO3 : Bool → Bool → RH → Option RH
  | true, true, η => some η
  | _, _, _ => none
def attO2 (f : Str) (oc : Nat → Bool) (η : RH) (y : D) (n : Nat) : Option Ob → Option RH
  | some (.ins c fs) => attO3 (oc c) (decide (fs.length < 1000)) (η.set n (.ins c (putD f y fs)))
  | _ => none
theorem e_attO : attO f oc η d (.ref n) = attO2 f oc η d n η[n]? := by
  show (match η[n]? with
    | some (.ins c fs) => if oc c = true ∧ fs.length < 1000 then some (η.set n (.ins c (putD f d fs))) else none
    | _ => none) = _
  cases η[n]? with
  | none => rfl
  | some o =>
    cases o <;> first | rfl | skip
    rename_i c fs
    simp only [attO2]
    by_cases h1 : oc c = true <;> by_cases h2 : fs.length < 1000 <;> simp [h1, h2, attO3]
theorem attO2_s : attO2 f oc η d n (some (.ins c fs)) = attO3 (oc c) (decide (fs.length < 1000)) (η.set n (.ins c (putD f d fs))) := id rfl
theorem attO3_t : attO3 true true η = some η := id rfl
theorem ocL_hit {l : List Nat} : ocL (c :: l) c = true := by simp [ocL]
theorem fo_in : flatO (.ins c fs) = false := id rfl
theorem cut_f : cutI false η η' = η' := id rfl
theorem bo_ft {b : Bool} : (false && b) = false := id rfl
theorem putD_nil : putD f d [] = [(f, d)] := id rfl
end
end ML
set_option Elab.async false
set_option linter.all false
namespace ML
open PySem PySem.W L2
theorem use_int {K : Frag} {h : Heap} {mg : Str → Option Value} (X : K.In h) (G : h.Ns mainGlobals mg) {x : Str} {i : Int} {t : Tok} (e : nsIn K mainGlobals x = some (some (.int i t))) : ∃ t, mg x = some (.int i t) := ⟨t, mg_of X G e⟩
theorem use_inC {K : Frag} {mg : Str → Option Value} {x : Str} {fds : List Str} {C : Addr} (_ : ClsAt K mg x C fds) (qual : Str) (st : Stmt) (ps : List Str)
    (b : ∀ (kV doc pm : Value) (an : Option Addr) (cdv ct : Value) (us : List Value), us.length = ps.length → bindArgs (fnOf "__init__" qual (defArgs st) (defBody st) (defScope st) .none kV doc pm an cdv ct) ⟨us, []⟩ = pure (ps.zip us))
    {f : Addr} {oc : Value} {od an : Option Addr} {osl : Array (Option Value)} {kV doc pm cdv ct : Value} {goal : Prop}
    (a : findIn K (.ref C) "__init__" = some (some (.ref f))) (i : isFn K (.ref f) = true) (l : K.lookup f = some ⟨oc, od, .func (fnOf "__init__" qual (defArgs st) (defBody st) (defScope st) .none kV doc pm an cdv ct), osl⟩) (c : codeIn K cdv qual = true) (k : keepIn K (.ref f) = true)
    (mk : makesIn K C = true) (kc : keepIn K (.ref C) = true) (n : InAt K C qual st ps → goal) : goal := use_in qual st ps b a i l c k mk kc n
end ML
set_option Elab.async false
set_option linter.all false
set_option maxRecDepth 100000
set_option maxHeartbeats 1000000
namespace ML
open PySem PySem.Spec PyProof.Rows L2
def getKP : List (Key × P) → Key → Option P
  | [], _ => none
  | (k', x) :: r, k => if k' = k then some x else getKP r k
def putKP (kvs : List (Key × P)) (k : Key) (x : P) : List (Key × P) :=
  if (kvs.any fun kv => decide (kv.1 = k)) = true then kvs.map (fun kv => if kv.1 = k then (kv.1, x) else kv) else kvs ++ [(k, x)]
section
variable {G : Gd} {H H' : Hp} {μ : List Addr} {η : RH}
def RepK (G : Gd) (H : Hp) (ks : List (Key × V)) (kvs : List (Key × P)) : Prop := ks.map (·.1) = kvs.map (·.1) ∧ RepL G H (ks.map (·.2)) (kvs.map (·.2))
theorem RepK.cons_inv {ks : List (Key × V)} {k : Key} {x : P} {kvs : List (Key × P)} (h : RepK G H ks ((k, x) :: kvs)) : ∃ v r, ks = (k, v) :: r ∧ Rep G H v x ∧ RepK G H r kvs := by
  obtain ⟨h1, h2⟩ := h
  cases ks with
  | nil => simp at h1
  | cons p r =>
    obtain ⟨k', v⟩ := p
    simp only [List.map_cons, List.cons.injEq] at h1 h2
    obtain ⟨rfl, h1⟩ := h1
    obtain ⟨v', ws, e, hr, ht⟩ := h2.cons_inv
    simp only [List.cons.injEq] at e
    obtain ⟨rfl, rfl⟩ := e
    exact ⟨v, r, rfl, hr, h1, ht⟩
theorem RepK.nil_inv {ks : List (Key × V)} (h : RepK G H ks []) : ks = [] := by
  have := h.1
  simpa using this
theorem RepK.cons {ks : List (Key × V)} {k : Key} {v : V} {x : P} {kvs : List (Key × P)} (r : Rep G H v x) (h : RepK G H ks kvs) : RepK G H ((k, v) :: ks) ((k, x) :: kvs) :=
  ⟨by simp [h.1], RepL.cons r h.2⟩
theorem RepK.nil : RepK G H [] [] := ⟨rfl, RepL.nil⟩
theorem RepK.len {ks : List (Key × V)} {kvs : List (Key × P)} (h : RepK G H ks kvs) : ks.length = kvs.length := by simpa using congrArg List.length h.1
theorem RepK.mono {ks : List (Key × V)} {kvs : List (Key × P)} (m : Imm H H') (h : RepK G H ks kvs) : RepK G H' ks kvs := ⟨h.1, RepL.mono m _ h.2⟩
theorem RepK.get {k : Key} : ∀ {kvs : List (Key × P)} {ks : List (Key × V)}, RepK G H ks kvs → match getKP kvs k with
    | some x => ∃ v, valV ks k = some v ∧ Rep G H v x
    | none => valV ks k = none
  | [], ks, h => by rw [h.nil_inv]; exact valV_nil
  | (k', x) :: kvs, ks, h => by
    obtain ⟨v, r, rfl, hr, ht⟩ := h.cons_inv
    unfold getKP
    by_cases e : k' = k
    · rw [if_pos e]
      exact ⟨v, valV_pos e, hr⟩
    · rw [if_neg e]
      have q := RepK.get (k := k) ht
      rw [valV_neg (p := (k', v)) e]
      exact q
theorem RepK.any {k : Key} : ∀ {kvs : List (Key × P)} {ks : List (Key × V)}, RepK G H ks kvs → (ks.any fun kv => decide (kv.1 = k)) = (kvs.any fun kv => decide (kv.1 = k))
  | [], ks, h => by rw [h.nil_inv]; rfl
  | (k', x) :: kvs, ks, h => by
    obtain ⟨v, r, rfl, hr, ht⟩ := h.cons_inv
    rw [List.any_cons, List.any_cons, RepK.any ht]
theorem RepK.repl {k : Key} {w : V} {y : P} (rw' : Rep G H w y) : ∀ {kvs : List (Key × P)} {ks : List (Key × V)}, RepK G H ks kvs →
    RepK G H (ks.map fun kv => if kv.1 = k then (kv.1, w) else kv) (kvs.map fun kv => if kv.1 = k then (kv.1, y) else kv)
  | [], ks, h => by rw [h.nil_inv]; exact RepK.nil
  | (k', x) :: kvs, ks, h => by
    obtain ⟨v, r, rfl, hr, ht⟩ := h.cons_inv
    rw [List.map_cons, List.map_cons]
    by_cases e : k' = k
    · rw [if_pos (show (k', v).1 = k from e), if_pos (show (k', x).1 = k from e)]
      exact RepK.cons rw' (RepK.repl rw' ht)
    · rw [if_neg (show ¬ (k', v).1 = k from e), if_neg (show ¬ (k', x).1 = k from e)]
      exact RepK.cons hr (RepK.repl rw' ht)
theorem RepK.snoc {k : Key} {w : V} {y : P} (rw' : Rep G H w y) : ∀ {kvs : List (Key × P)} {ks : List (Key × V)}, RepK G H ks kvs → RepK G H (ks ++ [(k, w)]) (kvs ++ [(k, y)])
  | [], ks, h => by rw [h.nil_inv]; exact RepK.cons rw' RepK.nil
  | (k', x) :: kvs, ks, h => by
    obtain ⟨v, r, rfl, hr, ht⟩ := h.cons_inv
    exact RepK.cons hr (RepK.snoc rw' ht)
theorem RepK.put {k : Key} {w : V} {y : P} {kvs : List (Key × P)} {ks : List (Key × V)} (h : RepK G H ks kvs) (rw' : Rep G H w y) : RepK G H (putK ks k w) (putKP kvs k y) := by
  unfold putK putKP
  rw [h.any]
  split
  · exact h.repl rw'
  · exact h.snoc rw'
end
section
variable {X : Cx} {G : Gd} {W : WX} {k : Nat} {a b e o i : Expr} {ma mb m mo mi me : EM} {am : AM} {pos tpos apos p : Pos}
theorem Ctx.hu (c : Ctx X G W k) : X.A.units + 1 < cLine := by
  have h := c.hr.units
  have h2 := c.hr
  first
    | exact h2.units1
    | (unfold Room at h2; omega)
    | omega
end
end ML
set_option Elab.async false
set_option linter.all false
set_option maxRecDepth 100000
set_option maxHeartbeats 1000000
namespace SrtO
open PySem PySem.Calls PyProof.Rows
end SrtO
namespace L2
open PySem PySem.Spec PyProof.Rows
end L2
namespace ML
open PySem PySem.Spec PyProof.Rows L2
end ML
set_option Elab.async false
set_option linter.all false
set_option maxRecDepth 100000
set_option maxHeartbeats 1000000
namespace ML
open PySem L2
end ML
set_option Elab.async false
set_option linter.all false
set_option maxRecDepth 100000
set_option maxHeartbeats 1000000
namespace L2
open PySem PySem.Spec PyProof.Rows
end L2
namespace ML
open PySem PySem.Spec PyProof.Rows L2
end ML
set_option Elab.async false
set_option linter.all false
set_option maxRecDepth 100000
set_option maxHeartbeats 1000000
namespace ML
open PySem PySem.Spec PyProof.Rows L2
def compD (t : Tg) (tt : TM) (te : EM) (ρ0 : LEnv) (n : Nat) : Nat → Nat → RH → Res (List P)
  | 0, _, _ => .bad
  | f + 1, i, η => match η[n]? with
    | some (.ls ys) => match ys[i]? with
      | none => .ok [] η
      | some x => match tgS t (.p x) ρ0 with
        | none => .bad
        | some ρ1 => (tt ρ1 η).bind fun b η => if b = true then (te ρ1 η).bind fun d η => match asP d with
            | some y => (compD t tt te ρ0 n f (i + 1) η).bind fun ys η => .ok (y :: ys) η
            | none => .bad
          else compD t tt te ρ0 n f (i + 1) η
    | _ => .bad
def ownAt (η : RH) : D → Option (Nat × List P)
  | .ref n => match η[n]? with
    | some (.ls ys) => some (n, ys)
    | _ => none
  | _ => none
def compW (m : EM) (t : Tg) (tt : TM) (te : EM) (vs : List Nat) : EM := fun ρ η => (m ρ η).bind fun d η => match ownAt η d with
  | some (n, ys) => if ys.length < sizeLine then (nox (compD t tt te (wipeE ρ vs) n (ys.length + 1) 0 η)).bind fun zs η => .ok (.p (.fl zs)) η else .bad
  | none => .bad
section
variable {X : Cx} {G : Gd} {W : WX} {k : Nat}
theorem compD_gen {σ : SV} {H1 : Hp} {μ1 : List Addr} {ρ : LEnv} {η1 ηe : RH} {a D : Addr} {n L : Nat} {t : Tg} {tt : TM} {te : EM} {vs : List Nat} {ys : List P} {Qd : Hp → Prop} (E1 : EnvRep G H1 μ1 σ ρ) (HR1 : HeapRep G H1 μ1 η1) (ha : μ1[n]? = some a) (hD : H1 D = none)
    (hl : L < sizeLine) (hv : ∀ i ∈ slots t, i ∈ vs) (h : compD t tt te (wipeE ρ vs) n (L + 1) 0 η1 = .ok ys ηe)
    (hq : ∀ H2 μ2 acc, Tr H1 μ1 H2 μ2 → HeapRep G H2 μ2 ηe → H2 D = some (.lst acc) → D ∉ μ2 → RepL G H2 acc ys → Qd H2) :
    ∃ Wv : Nat → Nat → Hp → Prop, (∃ m, Wv 0 m (L2.upd H1 D (.lst []))) ∧ ∀ i m H, Wv i m H →
      ((Itl G.K a).stop i H ∧ Qd H) ∨ ((Itl G.K a).go i H ∧ ∃ Nx : Hp → Prop, (∀ H', Nx H' → ∃ m', m' < m ∧ Wv (i + 1) m' H') ∧ ∀ x H', (Itl G.K a).yld i H x H' → gM G t x (L2.wipe σ vs) H' fun σ2 H2 => L2.wipe σ2 vs = L2.wipe σ vs ∧ tMT G W0 tt σ2 H2 fun b H3 =>
        if b = true then tM G W0 te σ2 H3 fun y H4 => ∃ acc, H4 D = some (.lst acc) ∧ acc.length < sizeLine ∧ Nx (L2.upd H4 D (.lst (acc ++ [y]))) else Nx H3) := by
  have D1 : D ∉ μ1 := fun hm => by
    obtain ⟨o, e⟩ := HR1.tk D hm
    rw [hD] at e; cases e
  have stayD : ∀ {Ha Hb : Hp} {μa μb : List Addr} {u : HO}, Tr Ha μa Hb μb → Ha D = some u → D ∉ μa → D ∉ μb := fun {Ha Hb μa μb u} t e n hm => by
    obtain ⟨l, el, f⟩ := t.pre
    rw [el] at hm
    rcases List.mem_append.mp hm with hm | hm
    · exact n hm
    · have := f D hm; rw [e] at this; cases this
  refine ⟨fun i m H2 => ∃ μ2 η2 acc accP rest, Tr H1 μ1 H2 μ2 ∧ HeapRep G H2 μ2 η2 ∧ H2 D = some (.lst acc) ∧ D ∉ μ2 ∧ RepL G H2 acc accP ∧ accP.length ≤ i ∧ i + m = L + 1 ∧
    compD t tt te (wipeE ρ vs) n m i η2 = .ok rest ηe ∧ accP ++ rest = ys, ⟨L + 1, μ1, η1, [], [], ys, Tr.up hD, HR1.same (Same.up hD), upd_same, D1, RepL.nil, Nat.le_refl _, by omega, h, rfl⟩, ?_⟩
  rintro i m H2 ⟨μ2, η2, acc, accP, rest, t2, HR2, hD2, nD2, racc, hacc, him, h2, hys⟩
  cases m with
  | zero => unfold compD at h2; cases h2
  | succ f =>
    unfold compD at h2
    have ha2 : μ2[n]? = some a := t2.get ha
    cases ho : η2[n]? with
    | none => simp only [ho] at h2; cases h2
    | some o =>
      simp only [ho] at h2
      cases o <;> first | (cases h2; done) | skip
      rename_i zs
      obtain ⟨us, hu, ru⟩ := HR2.ob n a _ ha2 ho
      simp only at h2
      cases hz : zs[i]? with
      | none =>
        simp only [hz] at h2
        cases h2
        rw [List.append_nil] at hys
        subst hys
        refine .inl ⟨⟨us, SqL.of hu, ?_⟩, hq H2 μ2 acc t2 HR2 hD2 nD2 racc⟩
        rw [ru.length]
        exact List.getElem?_eq_none_iff.mp hz
      | some p =>
        simp only [hz] at h2
        obtain ⟨v, hv', rp⟩ := ru.get hz
        refine .inr ⟨⟨us, v, SqL.of hu, hv'⟩, fun H' => ∃ μ2 η2 acc accP rest, Tr H1 μ1 H' μ2 ∧ HeapRep G H' μ2 η2 ∧ H' D = some (.lst acc) ∧ D ∉ μ2 ∧ RepL G H' acc accP ∧ accP.length ≤ i + 1 ∧ i + 1 + f = L + 1 ∧
          compD t tt te (wipeE ρ vs) n f (i + 1) η2 = .ok rest ηe ∧ accP ++ rest = ys, fun H' q => ⟨f, Nat.lt_succ_self f, q⟩, ?_⟩
        rintro x H3 ⟨rfl, hx⟩
        have ex : v = x := Option.some.inj (hv'.symm.trans (hx us (SqL.of hu)))
        subst ex
        cases et : tgS t (.p p) (wipeE ρ vs) with
        | none => simp only [et] at h2; cases h2
        | some ρ1 =>
          simp only [et] at h2
          have E3 : EnvRep G H3 μ2 (L2.wipe σ vs) (wipeE ρ vs) := (E1.mono t2).wipe vs
          refine ⟨wipeE ρ vs, μ2, .p p, ρ1, E3, rp, et, fun σ4 E4 o4 => ⟨?_, ?_⟩⟩
          · exact (o4.wipe hv).trans wipe_wipe
          cases e1 : tt ρ1 η2 with
          | bad => rw [e1] at h2; cases h2
          | ex _ _ _ => rw [e1] at h2; cases h2
          | ok b η3 =>
            rw [e1, Res.bind_ok] at h2
            refine runT E4 HR2 e1 fun H4 μ4 E5 HR4 t4 => ?_
            have T4 : Tr H1 μ1 H4 μ4 := t2.trans t4
            have hD4 : H4 D = some (.lst acc) := t4.fr D _ hD2 nD2
            have nD4 : D ∉ μ4 := stayD t4 hD2 nD2
            cases b with
            | false =>
              refine (if_neg Bool.false_ne_true).mpr ?_
              exact ⟨μ4, η3, acc, accP, rest, T4, HR4, hD4, nD4, RepL.mono t4.imm _ racc, Nat.le_succ_of_le hacc, by omega, by simpa using h2, hys⟩
            | true =>
              refine (if_pos rfl).mpr ?_
              simp only [if_true] at h2
              cases e2 : te ρ1 η3 with
              | bad => rw [e2] at h2; cases h2
              | ex _ _ _ => rw [e2] at h2; cases h2
              | ok d η4 =>
                rw [e2, Res.bind_ok] at h2
                cases d with
                | ref n => cases h2
                | xv c xs => cases h2
                | p yv =>
                  refine runE E5 HR4 e2 fun v H5 μ5 E6 HR5 r5 t5 => ?_
                  have T5 : Tr H1 μ1 H5 μ5 := T4.trans t5
                  have hD5 : H5 D = some (.lst acc) := t5.fr D _ hD4 nD4
                  have nD5 : D ∉ μ5 := stayD t5 hD4 nD4
                  have racc5 := RepL.mono (t4.imm.trans t5.imm) _ racc
                  simp only [asP] at h2
                  cases e3 : compD t tt te (wipeE ρ vs) n f (i + 1) η4 with
                  | bad => rw [e3] at h2; cases h2
                  | ex _ _ _ => rw [e3] at h2; cases h2
                  | ok rs η5 =>
                    rw [e3] at h2
                    have h2 : (Res.ok (yv :: rs) η5 : Res (List P)) = .ok rest ηe := h2
                    cases h2
                    exact ⟨acc, hD5, by rw [racc.length]; omega, μ5, η4, acc ++ [v], accP ++ [yv], rs, T5.step (H3 := H5) (μ3 := μ5) hD, HR5.upd hD5 rfl nD5, upd_same, nD5, RepL.mono (Imm.upd hD5 rfl) _ (racc5.append (RepL.one r5)), by simp; omega, by omega, e3, by rw [List.append_assoc]; exact hys⟩
variable {t : Tg} {tt : TM} {te m : EM} {elt tg iter : Expr} {ifs : List Expr} {scope : Scope} {own : List (Str × Nat)} {pos : Pos}
theorem compW_read {σ : SV} {H : Hp} {Q : VK} {vs : List Nat} (hK : X.K = G.K) (hv : ∀ i ∈ slots t, i ∈ vs) (h : tM G W (compW m t tt te vs) σ H Q) :
    tLc (iList X.K (tM G W m)) (gM G t) (tMT G W0 tt) (tM G W0 te) vs σ H (fun v H1 => ∃ p xs, v = .ref p ∧ H1 p = some (.lst xs) ∧ ∀ o, Q v (L2.upd H1 p (.frz o (.lst xs)))) := by
  obtain ⟨ρ, η, μ, E, HR, h⟩ := h
  refine bindE E HR h fun v H1 μ1 d η1 E1 HR1 r1 t1 h1 => ?_
  cases eo : ownAt η1 d with
  | none => simp only [eo] at h1; exact h1.elim
  | some z =>
    obtain ⟨n, ys⟩ := z
    simp only [eo] at h1
    split at h1
    · rename_i hl
      obtain ⟨zs, ηe, er, h1'⟩ := nox_bind h1
      cases d with
      | p x => cases eo
      | xv c xs => cases eo
      | ref n' =>
        obtain ⟨a, ha, rfl⟩ := r1
        unfold ownAt at eo
        simp only at eo
        cases ho : η1[n']? with
        | none => rw [ho] at eo; cases eo
        | some o =>
          rw [ho] at eo
          cases o <;> simp only [reduceCtorEq, Option.some.injEq, Prod.mk.injEq] at eo
          obtain ⟨rfl, rfl⟩ := eo
          obtain ⟨us, hu, ru⟩ := HR1.ob n' a _ ha ho
          rw [hK]
          refine ⟨a, rfl, ⟨us, SqL.of hu⟩, fun D hD => ?_⟩
          refine compD_gen E1 HR1 ha hD hl hv er fun H2 μ2 acc t2 HR2 hD2 nD2 racc => ⟨D, acc, rfl, hD2, fun o => ?_⟩
          exact (show FinE G W σ Q H1 μ1 (.ok (.p (.fl zs)) ηe) from h1') _ _ μ2 (t2.step (H3 := H2) (μ3 := μ2) hD) (Rep.fl (.inl ⟨o, upd_same⟩) (RepL.mono (Imm.upd hD2 rfl) _ racc)) (HR2.upd hD2 rfl nD2)
    · exact h1.elim
theorem de_compW (c : Ctx X G W k) (hm : DE X G W iter m) (ok : BlkOk X.N X.env.scope scope own) (hv : ∀ i ∈ slots t, i ∈ own.map (·.2))
    (hg : ∀ (s : Shared) (H : Hp) (C : Addr) (cl : List (Str × Addr)) (fp : List Addr), DG (X.blk s H scope (compEnvC scope cl C X.env) fp) G tg t) (ht : ∀ (s : Shared) (H : Hp) (C : Addr) (cl : List (Str × Addr)) (fp : List Addr), PTs (X.blk s H scope (compEnvC scope cl C X.env) fp) ifs (tMT G W0 tt))
    (he : ∀ (s : Shared) (H : Hp) (C : Addr) (cl : List (Str × Addr)) (fp : List Addr), DE (X.blk s H scope (compEnvC scope cl C X.env) fp) G W0 elt te) (hs : ∀ x, foldedSetIterable iter X.env x = pure x := by intro _; rfl) :
    DE X G W (.ListComp elt [⟨tg, iter, ifs, 0⟩] scope pos) (compW m t tt te (own.map (·.2))) :=
  iE (pe_frz (pe_lc c.hc c.hN (pi_list hm) ok hg ht he hs)) fun σ H Q h => compW_read c.hK hv h
end
section
variable {ρ ρ0 : LEnv} {η η' : RH} {d : D} {m te : EM} {t : Tg} {tt : TM} {vs : List Nat} {n : Nat} {xs : List P}
def ownO2 (n : Nat) : Option Ob → Option (Nat × List P)
  | some (.ls ys) => some (n, ys)
  | _ => none
theorem e_ownAt : ownAt η (.ref n) = ownO2 n η[n]? := by
  simp only [ownAt]
  generalize η[n]? = q
  match q with
  | none => rfl
  | some (.dc kvs) => rfl
  | some (.fz kvs) => rfl
  | some (.ls xs) => rfl
  | some (.lr ns) => rfl
  | some (.dt kvs) => rfl
  | some (.ins c fs) => rfl
  | some (.fn kvs) => rfl
  | some (.tp ds) => rfl
  | some .gone => rfl
theorem ownO2_s : ownO2 n (some (.ls xs)) = some (n, xs) := id rfl
def KCw (t : Tg) (tt : TM) (te : EM) (ρ0 : LEnv) (η : RH) : Option (Nat × List P) → Res D
  | some (n, ys) => if ys.length < sizeLine then (nox (compD t tt te ρ0 n (ys.length + 1) 0 η)).bind fun zs η => .ok (.p (.fl zs)) η else .bad
  | none => .bad
def KCW (t : Tg) (tt : TM) (te : EM) (ρ0 : LEnv) : Res D → Res D
  | .ok d η => KCw t tt te ρ0 η (ownAt η d)
  | .ex c xs η => .ex c xs η
  | .bad => .bad
theorem e_compW : compW m t tt te vs ρ η = KCW t tt te (wipeE ρ vs) (m ρ η) := by
  unfold compW KCW
  cases m ρ η with
  | ok d η1 =>
    simp only [Res.bind_ok]
    unfold KCw
    cases ownAt η1 d with
    | none => rfl
    | some z => rfl
  | _ => rfl
theorem KCW_ok : KCW t tt te ρ0 (.ok d η) = KCw t tt te ρ0 η (ownAt η d) := id rfl
theorem compD_pure {g : P → Option P} (ho : η[n]? = some (.ls xs)) (h : ∀ x ∈ xs, stC tt te (tgS t (.p x) ρ0) η = .ok (g x) η) : ∀ (f i : Nat), i ≤ xs.length → xs.length < f + i → compD t tt te ρ0 n f i η = .ok ((xs.drop i).filterMap g) η
  | 0, i, h1, hf => absurd hf (by omega)
  | f + 1, i, h1, hf => by
    unfold compD
    simp only [ho]
    cases hx : xs[i]? with
    | none =>
      simp only []
      rw [List.drop_eq_nil_of_le (List.getElem?_eq_none_iff.mp hx)]
      rfl
    | some x =>
      simp only []
      have hs := h x (List.mem_of_getElem? hx)
      have hi : i < xs.length := (List.getElem?_eq_some_iff.mp hx).1
      have ih := compD_pure ho h f (i + 1) (by omega) (by omega)
      have hd : xs.drop i = x :: xs.drop (i + 1) := by
        rw [List.drop_eq_getElem_cons hi]
        congr 1
        exact (List.getElem?_eq_some_iff.mp hx).2
      rw [hd]
      cases et : tgS t (.p x) ρ0 with
      | none => rw [et] at hs; cases hs
      | some ρ1 =>
        rw [et] at hs
        have hs : stC1 te ρ1 (tt ρ1 η) = .ok (g x) η := hs
        simp only []
        cases e1 : tt ρ1 η with
        | bad => rw [e1] at hs; cases hs
        | ex _ _ _ => rw [e1] at hs; cases hs
        | ok b η1 =>
          rw [e1] at hs
          cases b with
          | false =>
            have hs : (Res.ok none η1 : Res (Option P)) = .ok (g x) η := hs
            injection hs with q1 q2
            subst q2
            rw [Res.bind_ok, if_neg Bool.false_ne_true, ih, List.filterMap_cons, ← q1]
          | true =>
            have hs : stC2 (te ρ1 η1) = .ok (g x) η := hs
            rw [Res.bind_ok, if_pos rfl]
            cases e2 : te ρ1 η1 with
            | bad => rw [e2] at hs; cases hs
            | ex _ _ _ => rw [e2] at hs; cases hs
            | ok d η2 =>
              rw [e2] at hs
              cases d with
              | ref _ => cases hs
              | xv _ _ => cases hs
              | p y =>
                have hs : (Res.ok (some y) η2 : Res (Option P)) = .ok (g x) η := hs
                injection hs with q1 q2
                subst q2
                rw [Res.bind_ok]
                simp only [asP]
                rw [ih, Res.bind_ok, List.filterMap_cons, ← q1]
theorem KCw_ok {g : P → Option P} (ho : η[n]? = some (.ls xs)) (hl : xs.length < sizeLine) (h : ∀ x ∈ xs, stC tt te (tgS t (.p x) ρ0) η = .ok (g x) η) : KCw t tt te ρ0 η (some (n, xs)) = .ok (.p (.fl (xs.filterMap g))) η := by
  show (if xs.length < sizeLine then (nox (compD t tt te ρ0 n (xs.length + 1) 0 η)).bind fun zs η => Res.ok (D.p (P.fl zs)) η else .bad) = _
  rw [if_pos hl, compD_pure ho h _ _ (Nat.zero_le _) (by omega)]
  rfl
end
end ML
set_option Elab.async false
set_option linter.all false
set_option maxRecDepth 100000
set_option maxHeartbeats 1000000
namespace ML
open PySem PySem.Spec PyProof.Rows L2
end ML
set_option Elab.async false
set_option linter.all false
set_option maxRecDepth 100000
set_option maxHeartbeats 1000000
namespace PySem
open Sem (wp)
end PySem
namespace L2
open PySem PySem.Spec PyProof.Rows
end L2
namespace PySem
end PySem
namespace L2
open PySem PySem.Spec PyProof.Rows
end L2
namespace ML
open PySem PySem.Spec PyProof.Rows L2
end ML
set_option Elab.async false
set_option linter.all false
set_option maxRecDepth 100000
set_option maxHeartbeats 1000000
namespace ML
open PySem PySem.Spec PyProof.Rows L2
end ML
set_option Elab.async false
set_option linter.all false
set_option maxRecDepth 100000
set_option maxHeartbeats 1000000
namespace ML
open PySem PySem.Spec PyProof.Rows L2
end ML
set_option Elab.async false
set_option linter.all false
set_option maxRecDepth 100000
set_option maxHeartbeats 4000000
namespace L2
open PySem PySem.Spec PyProof.Rows
end L2
namespace ML
open PySem PySem.Spec PyProof.Rows L2
end ML
set_option Elab.async false
set_option linter.all false
set_option maxRecDepth 100000
set_option maxHeartbeats 1000000
namespace ML
open PySem PySem.Spec PyProof.Rows L2
end ML
set_option Elab.async false
set_option linter.all false
set_option maxRecDepth 100000
set_option maxHeartbeats 1000000
namespace ML
open PySem PySem.Spec PyProof.Rows L2
section
variable {G : Gd}
def strG : List P → Option P
  | [.int i] => if i.natAbs < 18446744073709551616 ∧ okP (.str (toString i)) = true then some (.str (toString i)) else none
  | _ => none
theorem o_str : CallD G (fun xs H Q => ∃ i, xs = [.int i] ∧ i.natAbs.log2 < 1920 ∧ Q (.str (toString i)) H) strG := fun xs z vs H Q e r q => by
  unfold strG at e
  split at e
  · rename_i i
    split at e
    · rename_i h
      cases e
      obtain ⟨v, rfl, rv⟩ := reps1 r
      have rv : Rep G H v (.int i) := rv
      unfold Rep at rv
      subst rv
      refine ⟨i, rfl, ?_, q _ H (Same.refl H) (by unfold Rep; rfl)⟩
      have h1 := h.1
      rcases Nat.eq_zero_or_pos i.natAbs with h0 | h0
      · rw [h0]; decide
      · have := (Nat.log2_lt (by omega)).mpr (show i.natAbs < 2 ^ 64 from h1)
        omega
    · cases e
  · cases e
theorem g_str {i : Int} (h : -200 ≤ i ∧ i ≤ 200) : strG [.int i] = some (.str (toString i)) := by
  have key : ∀ n : Nat, n < 401 → okP (.str (toString ((n : Int) - 200))) = true := by decide +kernel
  have := key (i + 200).toNat (by omega)
  rw [show (((i + 200).toNat : Nat) : Int) - 200 = i by omega] at this
  exact if_pos ⟨by omega, this⟩
end
end ML
set_option Elab.async false
set_option linter.all false
set_option maxRecDepth 100000
set_option maxHeartbeats 1000000
namespace L2
open PySem PySem.Spec PyProof.Rows
end L2
namespace ML
open PySem PySem.Spec PyProof.Rows L2
end ML
set_option Elab.async false
set_option linter.all false
set_option maxRecDepth 100000
set_option maxHeartbeats 2000000
namespace ML
open PySem PySem.Spec PyProof.Rows L2
open L2H (RoomH)
structure FnC (P : Program) (w : World) (K : PySem.W.Frag) (mg : Str → Option Value) (base : Heap) (k : Nat) (f : Addr) (fd : FuncData) (ps : List Str) (sp : Sp) : Prop where
  len : ∀ vs H Q E, sp vs H Q E → vs.length = ps.length
  run : ∀ (A : Around) (outer : List Env) (s : Shared) (H : Hp) (args : Args) (us : List Value) (vs : List V) (Q : VK) (E : XK), RoomH k A → Env0 P w K mg base A outer s H → BindsTo s fd args (ps.zip us) → Vals vs us → sp vs H Q E →
    codeAny (model P w) A (.call (.ref f) args) (CR (L2.CX P w) outer P w H s Q E) s
section
variable {X : Cx} {G : Gd} {W : WX} {k j n : Nat} {e : Expr} {am : AM} {pos p : Pos} {es : List Expr} {ps : List Str} {x : Str} {st : Stmt} {f : Addr} {fd : FuncData} {sp : Sp} {t : TA}
theorem FnC.mono {P : Program} {w : World} {K : PySem.W.Frag} {mg : Str → Option Value} {base : Heap} {j k : Nat} (F : FnC P w K mg base j f fd ps sp) (h : j ≤ k) : FnC P w K mg base k f fd ps sp :=
  ⟨F.len, fun A outer s H args us vs Q E hr => F.run A outer s H args us vs Q E (hr.mono h)⟩
theorem FnC.imp {P : Program} {w : World} {K : PySem.W.Frag} {mg : Str → Option Value} {base : Heap} {sp' : Sp} (F : FnC P w K mg base k f fd ps sp) (h : ∀ vs H Q E, sp' vs H Q E → sp vs H Q E) : FnC P w K mg base k f fd ps sp' :=
  ⟨fun vs H Q E q => F.len vs H Q E (h _ _ _ _ q), fun A outer s H args us vs Q E hr he hb hv hs => F.run A outer s H args us vs Q E hr he hb hv (h _ _ _ _ hs)⟩
end
end ML
set_option Elab.async false
set_option linter.all false
set_option maxRecDepth 100000
set_option maxHeartbeats 2000000
namespace ML
open PySem PySem.Spec PyProof.Rows L2
def unL : ML.D → Option P
  | .p (.fl xs) => some (.tup xs)
  | _ => none
def asgLS (ts : List Tg) (m : EM) : SM := fun ρ η => ResS (m ρ η) ρ fun d η => match unL d with
  | some y => (match tgS (.tp ts) (.p y) ρ with
    | some ρ1 => .nx ρ1 η
    | none => .bad)
  | none => .bad
section
variable {X : Cx} {G : Gd} {W : WX} {e : Expr} {m : EM} {pos : Pos} {es : List Expr} {ts : List Tg} {kk : Nat} {pos2 : Pos}
def gML (G : Gd) (ts : List Tg) : TG := fun v σ H Q => ∃ ρ μ xs ρ', EnvRep G H μ σ ρ ∧ Rep G H v (.fl xs) ∧ tgS (.tp ts) (.p (.tup xs)) ρ = some ρ' ∧ ∀ σ', EnvRep G H μ σ' ρ' → OnlyAt (slots (.tp ts)) σ σ' → Q σ' H
theorem dg_lst (hc : X.calm = true) (hK : X.K = G.K) (h : DGs X G es ts) (hl : (assignEach es X.env).length = ts.length := by rfl) (hst : (assignEach es X.env).findIdx? (·.1) = none := by rfl) : PG X (.Tuple es kk pos) (gML G ts) :=
  iG (pg_lst hc h hl hst) fun v σ H Q q => by
    obtain ⟨ρ, μ, xs, ρ', E, r, e, q⟩ := q
    unfold Rep at r
    obtain ⟨p, vs, rfl, s, rl⟩ := r
    unfold tgS at e
    rw [hK]
    exact ⟨p, vs, rfl, s.sq, by rw [rl.length]; exact tgsS_len e, ρ, μ, xs, ρ', E, rl, e, fun σ' E' o => q σ' E' (by unfold slots; exact o)⟩
theorem asgL_read {σ : SV} {H : Hp} {D : Ends} (h : tSM G W (asgLS ts m) D σ H) : tM G W m σ H fun x H1 => gML G ts x σ H1 D.nx := by
  obtain ⟨ρ, η, μ, E, HR, h⟩ := h
  refine bindSE E HR h fun v H1 μ1 d η1 E1 HR1 r1 t1 h1 => ?_
  cases hd : unL d with
  | none => simp only [hd] at h1; exact h1.elim
  | some y =>
    simp only [hd] at h1
    cases et : tgS (.tp ts) (.p y) ρ with
    | none => simp only [et] at h1; exact h1.elim
    | some ρ1 =>
      simp only [et] at h1
      cases d with
      | p x =>
        cases x <;> first | (cases hd; done) | skip
        rename_i xs
        cases hd
        exact ⟨ρ, μ1, xs, ρ1, E1, r1, et, fun σ' E' o => (show FinS G W D H1 μ1 (.nx ρ1 η1) from h1) σ' H1 μ1 Tr.refl E' HR1⟩
      | ref n => cases hd
      | xv c xs => cases hd
theorem ds_asgL (he : DE X G W e m) (hg : PG X (.Tuple es kk pos2) (gML G ts)) (hs : swapsWithSole [.Tuple es kk pos2] e pos.line X.env = pure false := by rfl) (hw : swappedStores [.Tuple es kk pos2] e X.env = pure none := by rfl) (h1 : (assignEach [.Tuple es kk pos2] X.env).map (·.2) = [assign (.Tuple es kk pos2) X.env] := by rfl) :
    DS X G W (.Assign [.Tuple es kk pos2] e pos) (asgLS ts m) :=
  iS (ps_asg he hg hs hw h1) fun D σ H h => asgL_read h
def KAsgL (ts : List Tg) (ρ : LEnv) : Res D → SRes
  | .ok d η => (match unL d with
    | some y => asgR (tgS (.tp ts) (.p y) ρ) η
    | none => .bad)
  | .ex c xs η => .ex c xs ρ η
  | .bad => .bad
theorem e_asgL {ρ : LEnv} {η : RH} : asgLS ts m ρ η = KAsgL ts ρ (m ρ η) := by
  unfold asgLS KAsgL ResS
  cases m ρ η with
  | ok d η =>
    cases hd : unL d with
    | none => simp only [hd]
    | some y =>
      simp only [hd]
      cases tgS (.tp ts) (.p y) ρ <;> rfl
  | _ => rfl
theorem KAsgL_ok {xs : List P} {ρ : LEnv} {η : RH} : KAsgL ts ρ (.ok (.p (.fl xs)) η) = asgR (tgS (.tp ts) (.p (.tup xs)) ρ) η := id rfl
end
end ML
set_option Elab.async false
set_option linter.all false
set_option maxRecDepth 100000
set_option maxHeartbeats 2000000
namespace ML
open PySem PySem.Spec PyProof.Rows L2
end ML
set_option Elab.async false
set_option linter.all false
set_option maxRecDepth 100000
set_option maxHeartbeats 2000000
namespace ML
open PySem PySem.Spec PyProof.Rows L2
end ML
set_option Elab.async false
set_option linter.all false
set_option maxRecDepth 100000
set_option maxHeartbeats 2000000
namespace ML
open PySem PySem.Spec PyProof.Rows L2
def RefL (μ : List Addr) (acc : List V) (ns : List Nat) : Prop := ∃ as : List Addr, acc = as.map V.ref ∧ as.map some = ns.map fun n => μ[n]?
theorem RefL.nil {μ : List Addr} : RefL μ [] [] := ⟨[], rfl, rfl⟩
theorem RefL.length {μ : List Addr} {acc : List V} {ns : List Nat} (h : RefL μ acc ns) : acc.length = ns.length := by
  obtain ⟨as, rfl, e⟩ := h
  have := congrArg List.length e
  simp only [List.length_map] at this
  rw [List.length_map, this]
theorem RefL.pre {μ μ' : List Addr} {acc : List V} {ns : List Nat} (h : RefL μ acc ns) (hp : ∀ (n : Nat) (a : Addr), μ[n]? = some a → μ'[n]? = some a) : RefL μ' acc ns := by
  obtain ⟨as, rfl, e⟩ := h
  refine ⟨as, rfl, ?_⟩
  refine List.ext_getElem? fun i => ?_
  have e := congrArg (fun l => l[i]?) e
  simp only [List.getElem?_map] at e ⊢
  cases h1 : as[i]? with
  | none =>
    rw [h1] at e
    cases h2 : ns[i]? with
    | none => rfl
    | some n => rw [h2] at e; cases e
  | some b =>
    rw [h1] at e
    cases h2 : ns[i]? with
    | none => rw [h2] at e; cases e
    | some n =>
      rw [h2] at e
      simp only [Option.map_some, Option.some.injEq] at e ⊢
      exact (hp n b e.symm).symm
theorem RefL.mono {H H' : Hp} {μ μ' : List Addr} {acc : List V} {ns : List Nat} (h : RefL μ acc ns) (t : Tr H μ H' μ') : RefL μ' acc ns := h.pre fun n a e => t.get e
section
variable {X : Cx} {G : Gd} {W : WX} {k : Nat}
theorem RefL.snoc {H : Hp} {μ : List Addr} {acc : List V} {ns : List Nat} {v : V} {n : Nat} (h : RefL μ acc ns) (r : RepD G H μ v (.ref n)) : RefL μ (acc ++ [v]) (ns ++ [n]) := by
  obtain ⟨as, rfl, e⟩ := h
  obtain ⟨a, ha, rfl⟩ := r
  exact ⟨as ++ [a], by rw [List.map_append]; rfl, by rw [List.map_append, List.map_append, e]; simp [ha]⟩
end
end ML
set_option Elab.async false
set_option linter.all false
set_option maxRecDepth 100000
set_option maxHeartbeats 2000000
namespace ML
open PySem PySem.Spec PyProof.Rows L2
end ML
set_option Elab.async false
set_option linter.all false
set_option maxRecDepth 100000
set_option maxHeartbeats 2000000
namespace ML
open PySem PySem.Spec PyProof.Rows L2
end ML
set_option Elab.async false
set_option linter.all false
set_option maxRecDepth 100000
set_option maxHeartbeats 1000000
namespace L2
open PySem PySem.Spec PyProof.Rows
end L2
namespace ML
open PySem PySem.Spec PyProof.Rows L2
end ML
set_option Elab.async false
set_option linter.all false
set_option maxRecDepth 100000
set_option maxHeartbeats 1000000
namespace L2
open PySem PySem.Spec PyProof.Rows
end L2
namespace ML
open PySem PySem.Spec PyProof.Rows L2
end ML
set_option Elab.async false
set_option linter.all false
set_option maxRecDepth 100000
set_option maxHeartbeats 4000000
namespace L2
open PySem PySem.Spec PyProof.Rows
end L2
namespace ML
open PySem PySem.Spec PyProof.Rows L2
end ML
set_option Elab.async false
set_option linter.all false
set_option maxRecDepth 100000
set_option maxHeartbeats 1000000
namespace ML
open PySem PySem.Spec PyProof.Rows L2
section
variable {X : Cx} {G : Gd} {W : WX} {k : Nat} {a b e o i : Expr} {ma mb m mo mi me : EM} {am : AM} {pos tpos apos p q : Pos} {es : List Expr}
theorem RepD.ext {H : Hp} {μ μ' : List Addr} (g : ∀ (n : Nat) (a : Addr), μ[n]? = some a → μ'[n]? = some a) {v : V} : ∀ {d : ML.D}, RepD G H μ v d → RepD G H μ' v d
  | .p x, h => h
  | .ref n, ⟨a, e, q⟩ => ⟨a, g n a e, q⟩
  | .xv c xs, h => h
theorem RepDs.ext {H : Hp} {μ μ' : List Addr} (g : ∀ (n : Nat) (a : Addr), μ[n]? = some a → μ'[n]? = some a) : ∀ {vs : List V} {ds : List ML.D}, RepDs G H μ vs ds → RepDs G H μ' vs ds
  | [], [], _ => trivial
  | v :: vs, d :: ds, h => ⟨h.1.ext g, RepDs.ext g h.2⟩
  | [], _ :: _, h => h.elim
  | _ :: _, [], h => h.elim
theorem RepO.ext {H : Hp} {μ μ' : List Addr} (g : ∀ (n : Nat) (a : Addr), μ[n]? = some a → μ'[n]? = some a) {a : Addr} : ∀ {o : Ob}, RepO G H μ a o → RepO G H μ' a o
  | .ls xs, h => h
  | .lr ns, ⟨as, h, r⟩ => ⟨as, h, by
    refine List.ext_getElem? fun i => ?_
    have e := congrArg (fun l => l[i]?) r
    simp only [List.getElem?_map] at e ⊢
    cases h1 : as[i]? with
    | none =>
      rw [h1] at e
      cases h2 : ns[i]? with
      | none => rfl
      | some n => rw [h2] at e; cases e
    | some b =>
      rw [h1] at e
      cases h2 : ns[i]? with
      | none => rw [h2] at e; cases e
      | some n =>
        rw [h2] at e
        simp only [Option.map_some, Option.some.injEq] at e ⊢
        exact (g n b e.symm).symm⟩
  | .dc kvs, h => h
  | .dt kvs, h => h
  | .fz kvs, h => h
  | .fn kvs, h => h
  | .gone, h => h
  | .ins c fs, ⟨dx, gs, h, e, r⟩ => ⟨dx, gs, h, e, r.ext g⟩
  | .tp ds, ⟨vs, h, r⟩ => ⟨vs, h, r.ext g⟩
theorem HeapRep.take {H : Hp} {μ : List Addr} {η : RH} {p : Addr} {o : Ob} (h : HeapRep G H μ η) (hn : p ∉ μ) (r : RepO G H (μ ++ [p]) p o) : HeapRep G H (μ ++ [p]) (η ++ [o]) := by
  refine ⟨by simp [h.len], List.nodup_append.mpr ⟨h.nd, by simp, fun a ha b hb => ?_⟩, fun i a o' e1 e2 => ?_⟩
  · simp at hb; subst hb; intro e; subst e; exact hn ha
  · by_cases hi : i < μ.length
    · rw [List.getElem?_append_left hi] at e1
      rw [List.getElem?_append_left (by rw [← h.len]; exact hi)] at e2
      exact (h.ob i a o' e1 e2).ext fun n b hb => by rw [List.getElem?_append_left (List.getElem?_eq_some_iff.mp hb).1]; exact hb
    · have hl : i = μ.length := by
        have := (List.getElem?_eq_some_iff.mp e1).1
        simp at this; omega
      subst hl
      rw [List.getElem?_append_right (Nat.le_refl _)] at e1
      rw [h.len, List.getElem?_append_right (Nat.le_refl _)] at e2
      simp at e1 e2
      subst e1 e2
      exact r
end
end ML
set_option Elab.async false
set_option linter.all false
set_option maxRecDepth 100000
set_option maxHeartbeats 1000000
namespace L2
open PySem PySem.Spec PyProof.Rows
end L2
namespace ML
open PySem PySem.Spec PyProof.Rows L2
end ML
set_option Elab.async false
set_option linter.all false
set_option maxRecDepth 100000
set_option maxHeartbeats 1000000
namespace ML
open PySem PySem.Spec PyProof.Rows L2
end ML
set_option Elab.async false
set_option linter.all false
set_option maxRecDepth 100000
set_option maxHeartbeats 1000000
namespace ML
open PySem PySem.Spec PyProof.Rows L2
section
variable {α : Type}
def lookN : List (NestedKey × α) → NestedKey → Option α
  | [], _ => none
  | (k', x) :: r, k => if k' = k then some x else lookN r k
def dropN (kvs : List (NestedKey × α)) (k : NestedKey) : List (NestedKey × α) := kvs.filter fun kv => decide (kv.1 ≠ k)
end
section
variable {X : Cx} {pins : List (Addr × Obj)} {σ : L2.St} {H : Hp} {s : Shared} {a b : Addr} {xs : List (NestedKey × Addr × V)} {k : NestedKey} {v : V}
abbrev nhs (X : Cx) : NestedKey → Int := NestedKey.hash X.w
def vals (xs : List (NestedKey × Addr × V)) : List (NestedKey × V) := xs.map fun x => (x.1, x.2.2)
structure IsN (X : Cx) (H : Hp) (a : Addr) (xs : List (NestedKey × Addr × V)) : Prop where
  at' : H a = some (.ext (DnAt (nhs X) xs a))
  ks : ∀ x ∈ xs, Dp X.K H (.ref x.2.1) x.1.data
structure IsR (X : Cx) (H : Hp) (a : Addr) (xs : List (NestedKey × Addr × V)) : Prop where
  at' : H a = some (.ext (DnAt (nhs X) xs a)) ∨ ∃ o, H a = some (.frz o (.ext (DnAt (nhs X) xs a)))
  ks : ∀ x ∈ xs, Dp X.K H (.ref x.2.1) x.1.data
theorem IsN.rd (n : IsN X H a xs) : IsR X H a xs := ⟨.inl n.at', n.ks⟩
abbrev RelN : List (NestedKey × Addr × V) → List (NestedKey × Addr × Value) → Prop := Paired fun x y => x.1 = y.1 ∧ x.2.1 = y.2.1 ∧ RelV x.2.2 y.2.2
theorem RelN.mem {ys : List (NestedKey × Addr × Value)} (r : RelN xs ys) : ∀ y ∈ ys, ∃ x ∈ xs, x.1 = y.1 ∧ x.2.1 = y.2.1 := by
  induction r with
  | nil => intro y hy; cases hy
  | cons h t ih =>
    intro y hy
    rcases List.mem_cons.mp hy with rfl | hy
    · exact ⟨_, List.mem_cons_self, h.1, h.2.1⟩
    · obtain ⟨x, hx, e⟩ := ih y hy
      exact ⟨x, List.mem_cons_of_mem _ hx, e⟩
theorem RelN.look {ys : List (NestedKey × Addr × Value)} (r : RelN xs ys) (k : NestedKey) : RelO (lookN (vals xs) k) ((atKey ys k).map (·.2)) := by
  induction r with
  | nil => exact True.intro
  | @cons x y xs ys h t ih =>
    obtain ⟨h1, h2, h3⟩ := h
    unfold vals at ih ⊢
    rw [List.map_cons]
    unfold lookN atKey
    by_cases e : x.1 = k
    · have e' : y.1 = k := h1.symm.trans e
      rw [if_pos e, List.find?_cons_of_pos (by simpa using e')]
      exact h3
    · have e' : ¬ y.1 = k := fun q => e (h1.trans q)
      rw [if_neg e, List.find?_cons_of_neg (by simpa using e')]
      exact ih
end
def dropX (xs : List (NestedKey × Addr × V)) (k : NestedKey) : List (NestedKey × Addr × V) := xs.filter fun x => decide (x.1 ≠ k)
theorem RelN.drop {xs : List (NestedKey × Addr × V)} {ys : List (NestedKey × Addr × Value)} (rl : RelN xs ys) (k : NestedKey) : RelN (dropX xs k) (withoutH ys k) := by
  unfold dropX withoutH
  refine Paired.rec (motive := fun xs ys _ => RelN (xs.filter fun x => decide (x.1 ≠ k)) (ys.filter fun x => decide (x.1 ≠ k))) .nil (fun {x y xs ys} h t ih => ?_) rl
  by_cases e : x.1 = k
  · rw [List.filter_cons_of_neg (by simpa using e), List.filter_cons_of_neg (by simpa using h.1.symm.trans e)]
    exact ih
  · rw [List.filter_cons_of_pos (by simpa using e), List.filter_cons_of_pos (by simpa using fun q => e (h.1.trans q))]
    exact .cons h ih
end ML
set_option Elab.async false
set_option linter.all false
set_option maxRecDepth 100000
set_option maxHeartbeats 1000000
namespace ML
open PySem PySem.Spec PyProof.Rows L2
def keyN : P → Option NestedKey
  | .non => some .none
  | .int i => some (.num i)
  | .str x => some (.text x)
  | .tup xs => match keyNs xs with
    | some ks => some (.tup ks)
    | none => none
  | _ => none
where keyNs : List P → Option (List NestedKey)
  | [] => some []
  | x :: xs => match keyN x, keyNs xs with
    | some k, some ks => some (k :: ks)
    | _, _ => none
def keyT (x : P) : Option NestedKey := match x with
  | .tup _ => match keyN x with
    | some k => if k.depth ≤ 8 then some k else none
    | none => none
  | _ => none
section
variable {X : Cx} {G : Gd} {H H' : Hp} {μ : List Addr} {η : RH}
def RepX (G : Gd) (H : Hp) (xs : List (NestedKey × Addr × V)) (kvs : List (NestedKey × P)) : Prop := xs.map (·.1) = kvs.map (·.1) ∧ RepL G H (xs.map fun x => V.ref x.2.1) (kvs.map fun kv => nkP kv.1) ∧ RepL G H (xs.map (·.2.2)) (kvs.map (·.2))
theorem RepX.mono {xs : List (NestedKey × Addr × V)} {kvs : List (NestedKey × P)} (m : Imm H H') (h : RepX G H xs kvs) : RepX G H' xs kvs := ⟨h.1, RepL.mono m _ h.2.1, RepL.mono m _ h.2.2⟩
theorem RepX.nil : RepX G H [] [] := ⟨rfl, RepL.nil, RepL.nil⟩
theorem RepX.nil_inv {xs : List (NestedKey × Addr × V)} (h : RepX G H xs []) : xs = [] := by simpa using h.1
theorem RepX.cons {x : NestedKey × Addr × V} {xs : List (NestedKey × Addr × V)} {k : NestedKey} {y : P} {kvs : List (NestedKey × P)} (e : x.1 = k) (r1 : Rep G H (.ref x.2.1) (nkP k)) (r2 : Rep G H x.2.2 y) (h : RepX G H xs kvs) : RepX G H (x :: xs) ((k, y) :: kvs) :=
  ⟨by rw [List.map_cons, List.map_cons, h.1, e], RepL.cons r1 h.2.1, RepL.cons r2 h.2.2⟩
theorem RepX.cons_inv {xs : List (NestedKey × Addr × V)} {k : NestedKey} {y : P} {kvs : List (NestedKey × P)} (h : RepX G H xs ((k, y) :: kvs)) :
    ∃ b v r, xs = (k, b, v) :: r ∧ Rep G H (.ref b) (nkP k) ∧ Rep G H v y ∧ RepX G H r kvs := by
  obtain ⟨h1, h2, h3⟩ := h
  cases xs with
  | nil => simp at h1
  | cons p r =>
    obtain ⟨k', b, v⟩ := p
    simp only [List.map_cons, List.cons.injEq] at h1 h2 h3
    obtain ⟨rfl, h1⟩ := h1
    obtain ⟨v1, w1, e1, q1, t1⟩ := h2.cons_inv
    obtain ⟨v2, w2, e2, q2, t2⟩ := h3.cons_inv
    simp only [List.cons.injEq] at e1 e2
    obtain ⟨rfl, rfl⟩ := e1
    obtain ⟨rfl, rfl⟩ := e2
    exact ⟨b, v, r, rfl, q1, q2, h1, t1, t2⟩
theorem RepX.len {xs : List (NestedKey × Addr × V)} {kvs : List (NestedKey × P)} (h : RepX G H xs kvs) : xs.length = kvs.length := by simpa using congrArg List.length h.1
theorem RepX.look {k : NestedKey} : ∀ {kvs : List (NestedKey × P)} {xs : List (NestedKey × Addr × V)}, RepX G H xs kvs → match lookN kvs k with
    | some y => ∃ v, lookN (vals xs) k = some v ∧ Rep G H v y
    | none => lookN (vals xs) k = none
  | [], xs, h => by rw [h.nil_inv]; rfl
  | (k', y) :: kvs, xs, h => by
    obtain ⟨b, v, r, rfl, h1, h2, h3⟩ := h.cons_inv
    have ih := RepX.look (k := k) h3
    unfold vals at ih ⊢
    rw [List.map_cons]
    unfold lookN
    by_cases e : k' = k
    · rw [if_pos e, if_pos e]
      exact ⟨v, rfl, h2⟩
    · rw [if_neg e, if_neg e]
      exact ih
theorem RepX.repl {k : NestedKey} {w : V} {y : P} (q : Rep G H w y) : ∀ {kvs : List (NestedKey × P)} {xs : List (NestedKey × Addr × V)}, RepX G H xs kvs →
    RepX G H (xs.map fun x => if x.1 = k then (x.1, x.2.1, w) else x) (kvs.map fun kv => if kv.1 = k then (kv.1, y) else kv)
  | [], xs, h => by rw [h.nil_inv]; exact RepX.nil
  | (k', z) :: kvs, xs, h => by
    obtain ⟨b, v, r, rfl, h1, h2, h3⟩ := h.cons_inv
    rw [List.map_cons, List.map_cons]
    by_cases e : k' = k
    · rw [if_pos (show (k', b, v).1 = k from e), if_pos (show (k', z).1 = k from e)]
      exact RepX.cons rfl h1 q (RepX.repl q h3)
    · rw [if_neg (show ¬ (k', b, v).1 = k from e), if_neg (show ¬ (k', z).1 = k from e)]
      exact RepX.cons rfl h1 h2 (RepX.repl q h3)
theorem RepX.snoc {k : NestedKey} {b : Addr} {w : V} {y : P} (q1 : Rep G H (.ref b) (nkP k)) (q : Rep G H w y) : ∀ {kvs : List (NestedKey × P)} {xs : List (NestedKey × Addr × V)}, RepX G H xs kvs → RepX G H (xs ++ [(k, b, w)]) (kvs ++ [(k, y)])
  | [], xs, h => by rw [h.nil_inv]; exact RepX.cons rfl q1 q RepX.nil
  | (k', z) :: kvs, xs, h => by
    obtain ⟨b', v, r, rfl, h1, h2, h3⟩ := h.cons_inv
    exact RepX.cons rfl h1 h2 (RepX.snoc q1 q h3)
theorem RepX.drop {k : NestedKey} : ∀ {kvs : List (NestedKey × P)} {xs : List (NestedKey × Addr × V)}, RepX G H xs kvs → RepX G H (dropX xs k) (dropN kvs k)
  | [], xs, h => by rw [h.nil_inv]; exact RepX.nil
  | (k', z) :: kvs, xs, h => by
    obtain ⟨b, v, r, rfl, h1, h2, h3⟩ := h.cons_inv
    have ih := RepX.drop (k := k) h3
    unfold dropX dropN at ih ⊢
    by_cases e : k' = k
    · rw [List.filter_cons_of_neg (by simpa using e), List.filter_cons_of_neg (by simpa using e)]
      exact ih
    · rw [List.filter_cons_of_pos (by simpa using e), List.filter_cons_of_pos (by simpa using e)]
      exact RepX.cons rfl h1 h2 ih
def dnO (η : RH) : D → Option (Nat × List (NestedKey × P))
  | .ref n => match η[n]? with
    | some (.dt kvs) => some (n, kvs)
    | _ => none
  | _ => none
end
section
variable {X : Cx} {G : Gd} {W : WX} {k : Nat} {a b e o i : Expr} {ma mb m mo mi me mz : EM} {am : AM} {pos tpos apos p : Pos}
def npopF (η : RH) (d i : D) : Option (P × RH) := match dnO η d, (view η i).bind keyT with
  | some (n, kvs), some kk => match lookN kvs kk with
    | some y => some (y, η.set n (.dt (dropN kvs kk)))
    | none => none
  | _, _ => none
end
end ML
set_option Elab.async false
set_option linter.all false
set_option maxRecDepth 100000
set_option maxHeartbeats 1000000
namespace ML
open PySem L2
section
variable {ρ ρ0 : LEnv} {η η' η2 : RH} {d a b j : D} {x y z : P} {ma mb m mo mi mz me : EM} {n c i : Nat} {kvs : List (NestedKey × P)} {neg : Bool} {k : NestedKey}
def KNo2 (d : D) : Res D → Res D
  | .ok i η => KNo2.r (npopF η d i)
  | .ex c xs η => .ex c xs η
  | .bad => .bad
where r : Option (P × RH) → Res D
  | some (y, η) => .ok (.p y) η
  | none => .bad
theorem KNo2_ok : KNo2 d (.ok j η) = KNo2.r (npopF η d j) := id rfl
theorem KNo2_r : KNo2.r (some (y, η)) = .ok (.p y) η := id rfl
end
end ML
set_option Elab.async false
set_option linter.all false
set_option maxRecDepth 100000
set_option maxHeartbeats 1000000
namespace L2
open PySem PySem.Spec PyProof.Rows
end L2
namespace ML
open PySem PySem.Spec PyProof.Rows L2
end ML
set_option Elab.async false
set_option linter.all false
set_option maxRecDepth 100000
set_option maxHeartbeats 1000000
namespace ML
open PySem PySem.Spec PyProof.Rows L2
end ML
set_option Elab.async false
set_option linter.all false
set_option maxRecDepth 100000
set_option maxHeartbeats 1000000
namespace ML
open PySem PySem.Spec PyProof.Rows L2
end ML
set_option Elab.async false
set_option linter.all false
set_option maxRecDepth 100000
set_option maxHeartbeats 3200000
namespace L2
open PySem PySem.Spec PyProof.Rows
end L2
namespace ML
open PySem PySem.Spec PyProof.Rows L2
end ML
set_option Elab.async false
set_option linter.all false
set_option maxRecDepth 100000
set_option maxHeartbeats 1000000
namespace L2
open PySem PySem.Spec PyProof.Rows
end L2
namespace ML
open PySem PySem.Spec PyProof.Rows L2
end ML
set_option Elab.async false
set_option linter.all false
set_option maxRecDepth 100000
set_option maxHeartbeats 1000000
namespace ML
open PySem PySem.Spec PyProof.Rows L2
structure ImW (a : Addr) (H H' : Hp) : Prop where
  at' : ∃ od ks, H a = some (.frz od (.dK ks))
  st : ∀ b o, H b = some o → b ≠ a → H' b = some o
section
variable {G : Gd} {H H' : Hp} {a : Addr}
theorem ImW.ne (m : ImW a H H') {b : Addr} {o : HO} (h : H b = some o) (hn : ∀ od ks, o ≠ .frz od (.dK ks)) : b ≠ a := fun e => by
  obtain ⟨od, ks, q⟩ := m.at'
  rw [e, q] at h
  cases h
  exact hn od ks rfl
theorem ImW.sqF (m : ImW a H H') {K : PySem.W.Frag} {b : Addr} {xs : List V} (h : SqF K H b xs) : SqF K H' b xs := by
  rcases h with ⟨o, h⟩ | h
  · exact .inl ⟨o, m.st _ _ h (m.ne h (fun _ _ z => nomatch z))⟩
  · exact .inr h
theorem ImW.sqT (m : ImW a H H') {K : PySem.W.Frag} {b : Addr} {xs : List V} (h : SqT K H b xs) : SqT K H' b xs := by
  rcases h with (h | ⟨o, h⟩) | h
  · exact .inl (.inl (m.st _ _ h (m.ne h (fun _ _ z => nomatch z))))
  · exact .inl (.inr ⟨o, m.st _ _ h (m.ne h (fun _ _ z => nomatch z))⟩)
  · exact .inr h
mutual
theorem ImW.rep (m : ImW a H H') : ∀ {v : V} (x : P), Rep G H v x → Rep G H' v x
  | _, .non, h => by unfold Rep at h ⊢; exact h
  | _, .bl b, h => by unfold Rep at h ⊢; exact h
  | _, .int i, h => by unfold Rep at h ⊢; exact h
  | _, .str s, h => by unfold Rep at h ⊢; exact h
  | _, .tup xs, h => by
    unfold Rep at h ⊢
    obtain ⟨p, vs, e, s, r⟩ := h
    exact ⟨p, vs, e, m.sqT s, ImW.repL m xs r⟩
  | _, .fl xs, h => by
    unfold Rep at h ⊢
    obtain ⟨p, vs, e, s, r⟩ := h
    exact ⟨p, vs, e, m.sqF s, ImW.repL m xs r⟩
  | _, .fi c xs, h => by
    unfold Rep at h ⊢
    obtain ⟨p, dx, o, fs, e, s, q, r⟩ := h
    exact ⟨p, dx, o, fs, e, m.st _ _ s (m.ne s (fun _ _ z => nomatch z)), q, ImW.repL m xs r⟩
theorem ImW.repL (m : ImW a H H') : ∀ {vs : List V} (xs : List P), RepL G H vs xs → RepL G H' vs xs
  | [], [], _ => by unfold RepL; trivial
  | v :: vs, x :: xs, h => by
    unfold RepL at h ⊢
    exact ⟨ImW.rep m x h.1, ImW.repL m xs h.2⟩
  | [], _ :: _, h => by unfold RepL at h; exact h.elim
  | _ :: _, [], h => by unfold RepL at h; exact h.elim
end
theorem ImW.repD (m : ImW a H H') {μ : List Addr} {v : V} : ∀ {d : ML.D}, RepD G H μ v d → RepD G H' μ v d
  | .p x, h => m.rep x h
  | .ref n, h => h
  | .xv c xs, ⟨h, e1, e2, e3, fs, e, q, r⟩ => ⟨h, e1, e2, e3, fs, m.st _ _ e (m.ne e (fun _ _ z => nomatch z)), q, m.repL _ r⟩
theorem ImW.env (m : ImW a H H') {μ : List Addr} {σ : SV} {ρ : LEnv} (E : EnvRep G H μ σ ρ) : EnvRep G H' μ σ ρ :=
  ⟨E.len, fun i d h => let ⟨v, h1, h2⟩ := E.at' i d h; ⟨v, h1, m.repD h2⟩⟩
end
section
variable {X : Cx} {G : Gd} {W : WX} {k : Nat} {e o : Expr} {m mo mi mk mv : EM} {pos apos : Pos} {H1 H2 : Hp} {μ1 μ2 : List Addr} {a : Addr} {n : Nat} {η : RH} {ks : List (Key × V)} {od : Obj}
def dropKP (kvs : List (Key × P)) (kk : Key) : List (Key × P) := kvs.filter fun kv => decide (kv.1 ≠ kk)
theorem RepK.drop {H : Hp} (kk : Key) : ∀ {kvs : List (Key × P)} {ks : List (Key × V)}, RepK G H ks kvs → RepK G H (dropK ks kk) (dropKP kvs kk)
  | [], ks, h => by rw [h.nil_inv]; exact RepK.nil
  | (k1, x) :: kvs, ks, h => by
    obtain ⟨v, r, rfl, rv, ht⟩ := h.cons_inv
    have ih := RepK.drop kk ht
    unfold dropK dropKP at ih ⊢
    by_cases e : k1 = kk
    · rw [List.filter_cons_of_neg (by simp [e]), List.filter_cons_of_neg (by simp [e])]
      exact ih
    · rw [List.filter_cons_of_pos (by simp [e]), List.filter_cons_of_pos (by simp [e])]
      exact RepK.cons rv ih
end
end ML
set_option Elab.async false
set_option linter.all false
set_option maxRecDepth 100000
set_option maxHeartbeats 2000000
namespace ZL
open PySem PySem.Calls PyProof.Rows PyProof.V PySem.Spec PySem.W
structure ZS (h : Heap) (z TI TO i1 i2 l1 l2 S : Addr) (xs ys : Array Value) (i : Nat) : Prop where
  pI : IsPair h TI (.ref i1) (.ref i2)
  a1 : h.IsListIter i1 l1 i
  a2 : h.IsListIter i2 l2 i
  b1 : h.IsList l1 xs
  b2 : h.IsList l2 ys
  zz : (IsZip h z TI TO .none ∧ ∃ a b, IsPair h TO a b) ∨ ∃ T f oT, IsZipHeld h z TI TO T f ∧ h.get? T = some oT ∧ T ≠ z ∧ T ≠ i1 ∧ T ≠ i2 ∧ T ≠ S
structure Ab (z TI TO i1 i2 l1 l2 S : Addr) : Prop where
  z : z < S
  TI : TI < S
  TO : TO < S
  i1 : i1 < S
  i2 : i2 < S
  l1 : l1 < S
  l2 : l2 < S
theorem ZS.keep {h h' : Heap} {z TI TO i1 i2 l1 l2 S : Addr} {xs ys : Array Value} {i : Nat} (x : ZS h z TI TO i1 i2 l1 l2 S xs ys i) (B : Ab z TI TO i1 i2 l1 l2 S) (hk : ∀ b o, b ≠ S → h.get? b = some o → h'.get? b = some o) : ZS h' z TI TO i1 i2 l1 l2 S xs ys i := by
  have n1 := Nat.ne_of_lt B.i1
  have n2 := Nat.ne_of_lt B.i2
  refine ⟨hk _ _ (Nat.ne_of_lt B.TI) x.pI, x.a1.at fun o e => hk _ o n1 e, x.a2.at fun o e => hk _ o n2 e, x.b1.at fun o e => hk _ o (Nat.ne_of_lt B.l1) e, x.b2.at fun o e => hk _ o (Nat.ne_of_lt B.l2) e, ?_⟩
  rcases x.zz with ⟨hz, a, b, hT⟩ | ⟨T, f, oT, hz, hT, r1, r2, r3, r4⟩
  · exact .inl ⟨hk _ _ (Nat.ne_of_lt B.z) hz, a, b, hk _ _ (Nat.ne_of_lt B.TO) hT⟩
  · exact .inr ⟨T, f, oT, hk _ _ (Nat.ne_of_lt B.z) hz, hk _ _ r4 hT, r1, r2, r3, r4⟩
end ZL
set_option Elab.async false
set_option linter.all false
set_option maxRecDepth 100000
set_option maxHeartbeats 2000000
namespace ZL
open PySem PySem.Spec PyProof.Rows L2 ML
end ZL
namespace ML
open PySem PySem.Spec PyProof.Rows L2
end ML
set_option Elab.async false
set_option linter.all false
set_option maxRecDepth 100000
set_option maxHeartbeats 2000000
namespace L2
open PySem PySem.Spec PyProof.Rows
end L2
namespace ML
open PySem PySem.Spec PyProof.Rows L2
end ML
set_option Elab.async false
set_option linter.all false
set_option maxRecDepth 100000
set_option maxHeartbeats 2000000
namespace ML
open PySem PySem.Spec PyProof.Rows L2
end ML
set_option Elab.async false
set_option linter.all false
set_option maxRecDepth 100000
set_option maxHeartbeats 2000000
namespace L2
open PySem PySem.Spec PyProof.Rows
end L2
namespace ML
open PySem PySem.Spec PyProof.Rows L2
section
variable {X : Cx} {G : Gd} {W : WX} {k j c : Nat} {a b e o : Expr} {ma mb m mo mk mv : EM} {am : AM} {pos p apos : Pos} {es : List Expr} {ps fds : List Str} {x nm qual f : Str} {st : Stmt}
theorem RepDs.snoc {H : Hp} {μ : List Addr} {v : V} {d : ML.D} (r : RepD G H μ v d) : ∀ {vs : List V} {ds : List ML.D}, RepDs G H μ vs ds → RepDs G H μ (vs ++ [v]) (ds ++ [d])
  | [], [], _ => ⟨r, trivial⟩
  | _ :: _, _ :: _, h => ⟨h.1, RepDs.snoc r h.2⟩
  | [], _ :: _, h => h.elim
  | _ :: _, [], h => h.elim
end
section
open PySem.W
end
end ML
set_option Elab.async false
set_option linter.all false
set_option maxRecDepth 100000
set_option maxHeartbeats 1000000
namespace ML
open PySem PySem.Spec PyProof.Rows L2
section
variable {ρ : LEnv} {η t : RH} {m mo mi mk mv : EM} {am : AM} {d : ML.D} {n i j c : Nat} {b : SM} {ns : List Nat} {o1 o2 o3 : Ob} {F : FS} {ds : List ML.D} {fs : List (Str × ML.D)}
theorem hpl (h : i < η.length) : (η ++ t)[i]? = η[i]? := List.getElem?_append_left h
theorem hs1 : (η ++ o1 :: o2 :: t).set (η.length + 1) o3 = η ++ o1 :: o3 :: t := by
  rw [List.set_append_right _ _ (by omega)]
  simp
end
end ML
set_option Elab.async false
set_option linter.all false
set_option maxRecDepth 100000
set_option maxHeartbeats 2000000
namespace L2
open PySem PySem.Spec PyProof.Rows
open ML (DnAt)
end L2
namespace ML
open PySem PySem.Spec PyProof.Rows L2
end ML
set_option Elab.async false
set_option linter.all false
set_option maxRecDepth 100000
set_option maxHeartbeats 2000000
namespace ML
open PySem PySem.Spec PyProof.Rows L2
end ML
set_option Elab.async false
set_option linter.all false
set_option maxRecDepth 100000
set_option maxHeartbeats 2000000
namespace ML
open PySem PySem.Spec PyProof.Rows L2
structure FnG (P : Program) (w : World) (K : PySem.W.Frag) (mg : Str → Option Value) (base : Heap) (k : Nat) (f : Addr) (fd : FuncData) (ps : List Str) (sp : Sp) : Prop where
  len : ∀ vs H Q E, sp vs H Q E → vs.length = ps.length
  run : ∀ (A : Around) (outer : List Env) (s : Shared) (H : Hp) (args : Args) (us : List Value) (vs : List V) (Q : VK) (E : XK), A.guards = some [] → Room k A → Env0 P w K mg base A outer s H → BindsTo s fd args (ps.zip us) → Vals vs us → sp vs H Q E →
    codeAny (model P w) A (.call (.ref f) args) (CR (L2.CX P w) outer P w H s Q E) s
section
variable {P : Program} {w : World} {K : PySem.W.Frag} {mg : Str → Option Value} {base : Heap} {j k : Nat} {f : Addr} {fd : FuncData} {ps : List Str} {sp sp' : Sp}
theorem FnG.mono (F : FnG P w K mg base j f fd ps sp) (h : j ≤ k) : FnG P w K mg base k f fd ps sp :=
  ⟨F.len, fun A outer s H args us vs Q E hg hr => F.run A outer s H args us vs Q E hg (hr.mono h)⟩
theorem FnG.imp (F : FnG P w K mg base k f fd ps sp) (h : ∀ vs H Q E, sp' vs H Q E → sp vs H Q E) : FnG P w K mg base k f fd ps sp' :=
  ⟨fun vs H Q E q => F.len vs H Q E (h _ _ _ _ q), fun A outer s H args us vs Q E hg hr he hb hv hs => F.run A outer s H args us vs Q E hg hr he hb hv (h _ _ _ _ hs)⟩
end
end ML
namespace ML
open PySem PySem.Spec PyProof.Rows L2
end ML
set_option Elab.async false
set_option linter.all false
set_option maxRecDepth 100000
set_option maxHeartbeats 2000000
namespace ML
open PySem PySem.Spec PyProof.Rows L2
end ML
set_option Elab.async false
set_option linter.all false
set_option maxRecDepth 100000
set_option maxHeartbeats 2000000
namespace PySem.W
open PySem PySem.Calls PyProof.Rows
end PySem.W
namespace L2
open PySem PySem.Spec PyProof.Rows
open ML (DnAt nhs IsN)
end L2
namespace ML
open PySem PySem.Spec PyProof.Rows L2
end ML
set_option Elab.async false
set_option linter.all false
set_option maxRecDepth 100000
set_option maxHeartbeats 2000000
namespace ML
open PySem PySem.Spec PyProof.Rows L2
end ML
set_option Elab.async false
set_option linter.all false
set_option maxRecDepth 100000
set_option maxHeartbeats 2000000
namespace PySem.W
open PySem PySem.Calls PyProof.Rows PyProof.V PySem.Spec
end PySem.W
namespace L2
open PySem PySem.Spec PyProof.Rows
open ML (DnAt nhs IsR IsN)
end L2
namespace ML
open PySem PySem.Spec PyProof.Rows L2
end ML
set_option Elab.async false
set_option linter.all false
set_option maxRecDepth 100000
set_option maxHeartbeats 2000000
namespace L2
open PySem PySem.Spec PyProof.Rows PyProof.V
end L2
namespace ML
open PySem PySem.Spec PyProof.Rows L2
end ML
set_option Elab.async false
set_option linter.all false
set_option maxRecDepth 100000
set_option maxHeartbeats 2000000
namespace PySem
end PySem
namespace L2
open PySem PySem.Spec PyProof.Rows
end L2
namespace ML
open PySem PySem.Spec PyProof.Rows L2
end ML
set_option Elab.async false
set_option linter.all false
set_option maxRecDepth 100000
set_option maxHeartbeats 2000000
namespace PySem
open PySem.Spec PyProof.Rows
end PySem
set_option Elab.async false
set_option linter.all false
set_option maxRecDepth 100000
set_option maxHeartbeats 1000000
namespace L2
open PySem PySem.Spec PyProof.Rows
end L2
namespace ML
open PySem PySem.Spec PyProof.Rows L2
end ML
set_option Elab.async false
set_option linter.all false
set_option maxRecDepth 100000
set_option maxHeartbeats 1000000
namespace L2
open PySem PySem.Spec PyProof.Rows
end L2
namespace ML
open PySem PySem.Spec PyProof.Rows L2
end ML
set_option Elab.async false
set_option linter.all false
set_option maxRecDepth 100000
set_option maxHeartbeats 1000000
namespace ML
open PySem PySem.Spec PyProof.Rows L2
def txtM (g : Str → P → Option P) (mo me : EM) : EM := fun ρ η => (mo ρ η).bind fun d η => match d with
  | .p (.str s) => (me ρ η).bind fun j η => ofO ((view η j).bind (g s)) η
  | _ => .bad
def TxtD (G : Gd) (r : V → List V → Hp → VK → Prop) (g : Str → P → Option P) : Prop := ∀ s y z u H Q, g s y = some z → RepV G H u y → (∀ w H', Same H H' → Rep G H' w z → Q w H') → r (.str s) [u] H Q
section
variable {X : Cx} {G : Gd} {W : WX} {k : Nat} {e o : Expr} {mo me : EM} {pos apos : Pos} {ρ : LEnv} {η : RH} {d : ML.D}
theorem txt_read {r : V → List V → Hp → VK → Prop} {g : Str → P → Option P} (og : TxtD G r g) {σ : SV} {H : Hp} {Q : VK} (h : tM G W (txtM g mo me) σ H Q) : L2.tM1 r (tM G W mo) (tM G W me) σ H Q := by
  obtain ⟨ρ, η, μ, E, HR, h⟩ := h
  refine bindE E HR h fun v H1 μ1 d η1 E1 HR1 r1 t1 h1 => ?_
  split at h1
  · rename_i s
    have hv : v = .str s := repStr (show RepV G H1 v (.str s) from r1)
    subst hv
    refine ⟨⟨s, rfl⟩, bindE E1 HR1 h1 fun u H2 μ2 d2 η2 E2 HR2 r2 t2 h2 => ?_⟩
    obtain ⟨z, ez, q⟩ := ofO_fin HR2 h2
    cases ey : view η2 d2 with
    | none => rw [ey] at ez; cases ez
    | some y =>
      rw [ey, Option.bind_some] at ez
      exact og s y z u H2 Q ez (viewRep HR2 r2 ey) q
  · exact h1.elim
theorem de_txt {id : String} {name : Str} {r : V → List V → Hp → VK → Prop} {g : Str → P → Option P} (slot : Slot "str" name id) (ty : typeOf (.builtin id) = pure (.type "method_descriptor")) (rule : MtR X id r) (og : TxtD G r g) (ho : DE X G W o mo) (he : DE X G W e me)
    (hs : starEach [e] X.env = [(false, eval e X.env)] := by rfl) (hbase : attributeBase o name X.env (eval o X.env) = eval o X.env := by rfl) (hline : (apos.endLine == pos.line) = true := by rfl) :
    DE X G W (.Call (.Attribute o name apos) [e] [] pos) (txtM g mo me) := iE (L2.pe_m1 slot ty rule ho he hs hbase hline) fun σ H Q h => txt_read og h
def lockT (r : V → List V → Hp → VK → Prop) : V → List V → Hp → VK → Prop := fun x vs H Q => r x vs H fun v H1 => ∃ p xs, v = .ref p ∧ H1 p = some (.lst xs) ∧ ∀ o, Q v (L2.upd H1 p (.frz o (.lst xs)))
theorem de_txtL {id : String} {name : Str} {r : V → List V → Hp → VK → Prop} {g : Str → P → Option P} (slot : Slot "str" name id) (ty : typeOf (.builtin id) = pure (.type "method_descriptor")) (rule : MtR X id r) (og : TxtD G (lockT r) g) (ho : DE X G W o mo) (he : DE X G W e me)
    (hs : starEach [e] X.env = [(false, eval e X.env)] := by rfl) (hbase : attributeBase o name X.env (eval o X.env) = eval o X.env := by rfl) (hline : (apos.endLine == pos.line) = true := by rfl) :
    DE X G W (.Call (.Attribute o name apos) [e] [] pos) (txtM g mo me) := iE (pe_frz (L2.pe_m1 slot ty rule ho he hs hbase hline)) fun σ H Q h => txt_read (r := lockT r) og h
def splitT (s : Str) : P → Option P
  | .str b => if (b.length == 0) = false ∧ s.length + 2 ≤ sizeLine then some (.fl ((Txt.split s b).map .str)) else none
  | _ => none
def asStrs : List P → Option (List Str)
  | [] => some []
  | .str s :: xs => (asStrs xs).map (s :: ·)
  | _ => none
theorem asStrs_eq : ∀ {xs : List P} {ys : List Str}, asStrs xs = some ys → xs = ys.map .str
  | [], ys, h => by cases h; rfl
  | x :: xs, ys, h => by
    cases x <;> first | (cases h; done) | skip
    rename_i s
    unfold asStrs at h
    obtain ⟨zs, e, rfl⟩ := Option.map_eq_some_iff.mp h
    rw [asStrs_eq e]; rfl
theorem asStrs_map : ∀ {ys : List Str}, asStrs (ys.map .str) = some ys
  | [] => rfl
  | y :: ys => by
    rw [List.map_cons]
    unfold asStrs
    rw [asStrs_map]; rfl
def joinT (s : Str) : P → Option P
  | .fl xs => (asStrs xs).bind fun ys => if (ys.map (·.length)).sum + ys.length * s.length ≤ 16777216 then some (.str (Txt.join s ys)) else none
  | .tup xs => (asStrs xs).bind fun ys => if (ys.map (·.length)).sum + ys.length * s.length ≤ 16777216 then some (.str (Txt.join s ys)) else none
  | _ => none
theorem d_split : TxtD G (lockT fun x xs H Q => ∃ a b, x = .str a ∧ xs = [.str b] ∧ (b.length == 0) = false ∧ a.length + 2 ≤ sizeLine ∧ rNewStrs (Txt.split a b) H Q) splitT := fun s y z u H Q e ry q => by
  cases y <;> simp only [splitT, reduceCtorEq, Option.ite_none_right_eq_some, Option.some.injEq] at e
  obtain ⟨⟨h1, h2⟩, rfl⟩ := e
  rw [repStr ry]
  refine ⟨s, _, rfl, rfl, h1, h2, fun p hn => ⟨p, _, rfl, upd_same, fun od => ?_⟩⟩
  rw [upd_upd]
  exact q _ _ (Same.up hn) (newFl hn RepL.of_strs)
theorem d_join : TxtD G (fun x xs H Q => ∃ a p, ∃ ys : List Str, x = .str a ∧ xs = [.ref p] ∧ (SqL G.K H p (ys.map V.str) ∨ SqT G.K H p (ys.map V.str)) ∧
    (ys.map (·.length)).sum + ys.length * a.length ≤ 16777216 ∧ Q (.str (Txt.join a ys)) H) joinT := fun s y z u H Q e ry q => by
  cases y <;> simp only [joinT, reduceCtorEq] at e
  · rename_i xs
    obtain ⟨ys, ey, e⟩ := Option.bind_eq_some_iff.mp e
    simp only [Option.ite_none_right_eq_some, Option.some.injEq] at e
    obtain ⟨h1, rfl⟩ := e
    obtain ⟨p, vs, rfl, sq, r⟩ := repTup ry
    rw [asStrs_eq ey] at r
    have := r.strs
    subst this
    exact ⟨s, p, ys, rfl, rfl, .inr sq, h1, q _ _ (Same.refl H) (Rep.str _)⟩
  · rename_i xs
    obtain ⟨ys, ey, e⟩ := Option.bind_eq_some_iff.mp e
    simp only [Option.ite_none_right_eq_some, Option.some.injEq] at e
    obtain ⟨h1, rfl⟩ := e
    obtain ⟨p, vs, rfl, sq, r⟩ := ry
    rw [asStrs_eq ey] at r
    have := r.strs
    subst this
    exact ⟨s, p, ys, rfl, rfl, .inl sq, h1, q _ _ (Same.refl H) (Rep.str _)⟩
theorem de_split (ho : DE X G W o mo) (he : DE X G W e me) (hs : starEach [e] X.env = [(false, eval e X.env)] := by rfl) (hbase : attributeBase o "split" X.env (eval o X.env) = eval o X.env := by rfl) (hline : (apos.endLine == pos.line) = true := by rfl) :
    DE X G W (.Call (.Attribute o "split" apos) [e] [] pos) (txtM splitT mo me) := de_txtL PySem.F.slot_str_split PySem.F.type_str_split mt_split d_split ho he hs hbase hline
theorem de_join (c : Ctx X G W k) (ho : DE X G W o mo) (he : DE X G W e me) (hs : starEach [e] X.env = [(false, eval e X.env)] := by rfl) (hbase : attributeBase o "join" X.env (eval o X.env) = eval o X.env := by rfl) (hline : (apos.endLine == pos.line) = true := by rfl) :
    DE X G W (.Call (.Attribute o "join" apos) [e] [] pos) (txtM joinT mo me) := de_txt PySem.F.slot_str_join PySem.F.type_str_join mt_join (by rw [c.hK]; exact d_join) ho he hs hbase hline
def intSG : List P → Option P
  | [.str s] => if s.length ≤ 640 then (PySem.intText? s).map .int else none
  | _ => none
theorem o_intS : CallD G (fun xs H Q => ∃ a n, xs = [.str a] ∧ PySem.intText? a = some n ∧ a.length ≤ 640 ∧ Q (.int n) H) intSG := fun xs z vs H Q e r q => by
  unfold intSG at e
  split at e
  · rename_i s
    split at e
    · rename_i hl
      obtain ⟨n, en, rfl⟩ := Option.map_eq_some_iff.mp e
      obtain ⟨v, rfl, rv⟩ := reps1 r
      rw [repStr rv]
      exact ⟨s, n, rfl, en, hl, q _ _ (Same.refl H) (Rep.int _)⟩
    · cases e
  · cases e
def inSG (neg : Bool) : P → P → Option P
  | .str c, .str z => match c.cps.toList with
    | [i] => some (.bl (if neg then !decide (i ∈ z.cps.toList) else decide (i ∈ z.cps.toList)))
    | _ => none
  | _, _ => none
theorem one_sign {c : Str} {i : Nat} (h : c.cps.toList = [i]) : c = ⟨#[i]⟩ := by
  cases c with
  | mk cps =>
    have : cps = #[i] := Array.toList_inj.mp h
    rw [this]
theorem o_inS : Op2 G (fun x y H Q => ∃ (c : Nat) (z : Str), x = .str ⟨#[c]⟩ ∧ y = .str z ∧ Q (.bl (decide (c ∈ z.cps.toList))) H) (inSG false) := fun x y z v u H Q e rx ry q => by
  cases x <;> cases y <;> simp only [inSG, reduceCtorEq] at e
  rename_i c s
  split at e
  · rename_i i hi
    cases e
    rw [repStr rx, repStr ry, one_sign hi]
    exact ⟨i, s, rfl, rfl, q _ _ (Same.refl H) (Rep.bl _)⟩
  · cases e
theorem cd_inS : CmpD X G .In (inSG false) := ⟨_, L2.op_in_sign, o_inS⟩
def KTx (g : Str → P → Option P) (me : EM) (ρ : LEnv) : Res ML.D → Res ML.D
  | .ok (.p (.str s)) η => K1 (g s) (me ρ η)
  | .ok _ _ => .bad
  | .ex c xs η => .ex c xs η
  | .bad => .bad
theorem e_txt {g : Str → P → Option P} : txtM g mo me ρ η = KTx g me ρ (mo ρ η) := by
  unfold txtM KTx
  cases mo ρ η with
  | ok d η1 =>
    cases d with
    | p x =>
      cases x with
      | str s =>
        show (me ρ η1).bind _ = K1 (g s) (me ρ η1)
        rw [← e_op1]
        rfl
      | _ => rfl
    | ref n => rfl
    | xv c xs => rfl
  | ex c xs η1 => rfl
  | bad => rfl
theorem KTx_ok {g : Str → P → Option P} {s : Str} : KTx g me ρ (.ok (.p (.str s)) η) = K1 (g s) (me ρ η) := id rfl
theorem g_split {s b : Str} (h : (b.length == 0) = false) (h2 : s.length ≤ 1000000) : splitT s (.str b) = some (.fl ((Txt.split s b).map .str)) := if_pos ⟨h, by rw [sizeLine_eq]; omega⟩
theorem g_joinF {s : Str} {ys : List Str} (h : (ys.map (·.length)).sum + ys.length * s.length ≤ 16777216) : joinT s (.fl (ys.map .str)) = some (.str (Txt.join s ys)) := by
  show (asStrs (ys.map P.str)).bind _ = _
  rw [asStrs_map]
  exact if_pos h
theorem g_intS {s : Str} {n : Int} (h : PySem.intText? s = some n) (hl : s.length ≤ 640) : intSG [.str s] = some (.int n) := by
  show (if s.length ≤ 640 then (PySem.intText? s).map P.int else none) = _
  rw [if_pos hl, h]; rfl
end
end ML
set_option Elab.async false
set_option linter.all false
set_option maxRecDepth 100000
set_option maxHeartbeats 1000000
namespace L2
open PySem PySem.Spec PyProof.Rows
def sixT : List String := ["NoneType", "bool", "int", "str", "tuple", "list"]
structure IsC (K : PySem.W.Frag) (C : Addr) : Prop where
  ha : PySem.W.findIn K (.ref C) "__class__" = some (some (.builtin "object.__class__"))
  hn : PySem.W.specialIn K (.builtin "object.__class__") "__get__" = some (some (.builtin "getset_descriptor.__get__"))
  htk : PySem.W.takesIn K (.builtin "object.__class__") = some true
  hm : PySem.W.mroIn K C (.type "object") = some true
  no : ∀ T ∈ sixT, PySem.W.kitOne K (.type T) (.ref C) = some false
theorem call_isR {X : Cx} {C : Addr} (cl : Cls X.K C) (c : IsC X.K C) : CallR X (.builtin "isinstance") (fun xs H Q => ∃ x, xs = [x, .ref C] ∧ ((∃ a dx fs, x = .ref a ∧ Rd H a (.ins C dx fs) ∧ Q (.bl true) H) ∨ ∃ T ∈ sixT, TyX X.K H x (.type T) ∧ Q (.bl false) H)) := by
  intro pins s σ H xs us Q I r h
  obtain ⟨x, rfl, h⟩ := h
  obtain ⟨u1, u2, rfl, r1, r2⟩ := vals2 r
  cases (show u2 = Value.ref C from r2)
  rcases h with ⟨a, dx, fs, rfl, ea, q⟩ | ⟨T, hT, ty, q⟩
  · cases (show u1 = Value.ref a from r1)
    obtain ⟨mA, O, _⟩ := ins_getR I.hok ea
    obtain ⟨od, J, _⟩ := O.look
    have me : PySem.W.kitOne X.K (.ref C) (.ref C) = some true := by
      unfold PySem.W.kitOne
      rw [if_pos (by simp)]
    exact PySem.W.kia_one (PySem.W.kitx_own (cl.get _) cl.hd c.ha c.hn c.htk c.hm) I.kIn J me (fun z => nomatch z) fun tk => ⟨.bl true, H, I.tok tk, rfl, q⟩
  · obtain ⟨P, Z, p, hx⟩ := kit_of I r1 ty
    exact PySem.W.kia_one Z I.kIn p (c.no T hT) hx fun tk => ⟨.bl false, H, I.tok tk, rfl, q⟩
end L2
namespace ML
open PySem PySem.Spec PyProof.Rows L2
def isoP (c : Nat) : P → Option P
  | .fi c' _ => if c' = c then some (.bl true) else none
  | _ => some (.bl false)
def isoM (c : Nat) (m : EM) : EM := fun ρ η => (m ρ η).bind fun d η => ofO ((view η d).bind (isoP c)) η
section
variable {X : Cx} {G : Gd} {W : WX} {k : Nat} {e : Expr} {m : EM} {pos p p2 : Pos} {ρ : LEnv} {η : RH} {c0 : Nat} {fds : List Str} {x : Str}
theorem ty_six {y : P} (h : ∀ c xs, y ≠ .fi c xs) : tyP y ∈ sixT := by
  cases y with
  | fi c xs => exact (h c xs rfl).elim
  | _ => unfold tyP sixT; simp
theorem de_iso (c : Ctx X G W k) (hg : Gl X "isinstance") (hm : X.mg "isinstance" = none) (hc : ClsG G X.mg x c0 fds) (hi : IsC G.K (G.cls c0)) (he : DE X G W e m) (hgx : Gl X x := by rfl) (hdb : (x == ("__debug__" : Str)) = false := by decide)
    (hs2 : starEach [Expr.Name x p2] X.env = [(false, eval (.Name x p2) X.env)] := by rfl) (hs1 : starEach [e, Expr.Name x p2] X.env = (false, eval e X.env) :: starEach [Expr.Name x p2] X.env := by rfl)
    (hpl : (backTo pos (starEach [Expr.Name x p2] X.env)).any (·.1) = false := by rfl) :
    DE X G W (.Call (.Name "isinstance" p) [e, .Name x p2] [] pos) (isoM c0 m) := by
  have hT : PE X (.Name x p2) (tC (.ref (G.cls c0))) := pe_glob hgx hc.at' rfl hdb
  have hA : PA X [e, .Name x p2] (tCons (tM G W m) (tCons (tC (.ref (G.cls c0))) tNil)) := L2.pa_cons he (L2.pa_cons hT L2.pa_nil hs2) hs1
  have hcl : Cls X.K (G.cls c0) := by rw [c.hK]; exact hc.cl
  have hic : IsC X.K (G.cls c0) := by rw [c.hK]; exact hi
  refine iE (pe_callB (call_isR hcl hic) hg hm (by decide +kernel) hA (by decide) (by decide) hs1 hpl) fun σ H Q h => ?_
  obtain ⟨ρ, η, μ, E, HR, h⟩ := h
  refine bindE E HR h fun v H1 μ1 d η1 E1 HR1 r1 t1 h1 => ?_
  obtain ⟨z, e, q⟩ := ofO_fin HR1 h1
  cases ex : view η1 d with
  | none => rw [ex] at e; cases e
  | some y =>
    rw [ex, Option.bind_some] at e
    have rv := viewRep HR1 r1 ex
    have fin : ∀ b, z = .bl b → Q (.bl b) H1 := fun b hb => q _ _ (Same.refl H1) (by rw [hb]; exact Rep.bl b)
    refine ⟨v, rfl, ?_⟩
    by_cases hf : ∀ c xs, y ≠ .fi c xs
    · have hz : z = .bl false := by
        cases y with
        | fi c xs => exact (hf c xs rfl).elim
        | _ => exact (Option.some.inj e).symm
      exact .inr ⟨tyP y, ty_six hf, by rw [c.hK]; exact tyx_of rv hf, fin _ hz⟩
    · have : ∃ c xs, y = .fi c xs := by
        cases y with
        | fi c xs => exact ⟨c, xs, rfl⟩
        | _ => exact (hf fun c xs h => nomatch h).elim
      obtain ⟨c', xs, rfl⟩ := this
      simp only [isoP, Option.ite_none_right_eq_some, Option.some.injEq] at e
      obtain ⟨rfl, rfl⟩ := e
      have rv : Rep G H1 v (.fi c' xs) := rv
      unfold Rep at rv
      obtain ⟨p, dx, o, fs, rfl, hp, _, _⟩ := rv
      exact .inl ⟨p, dx, fs, rfl, .inr ⟨o, hp⟩, fin _ rfl⟩
theorem e_iso : isoM c0 m ρ η = K1 (isoP c0) (m ρ η) := by
  unfold isoM
  rw [← e_op1]
  rfl
theorem g_iso_t {c : Nat} {xs : List P} : isoP c (.fi c xs) = some (.bl true) := if_pos rfl
theorem g_iso_n {c : Nat} : isoP c .non = some (.bl false) := rfl
theorem g_iso_b {c : Nat} {b : Bool} : isoP c (.bl b) = some (.bl false) := rfl
theorem g_iso_i {c : Nat} {i : Int} : isoP c (.int i) = some (.bl false) := rfl
theorem g_iso_s {c : Nat} {s : Str} : isoP c (.str s) = some (.bl false) := rfl
theorem g_iso_u {c : Nat} {xs : List P} : isoP c (.tup xs) = some (.bl false) := rfl
theorem g_iso_l {c : Nat} {xs : List P} : isoP c (.fl xs) = some (.bl false) := rfl
end
section
open PySem.W
theorem isC_of {K : Frag} {mg : Str → Option Value} {x : Str} {fds : List Str} {C : Addr} (_ : ClsAt K mg x C fds)
    (ha : findIn K (.ref C) "__class__" = some (some (.builtin "object.__class__"))) (hn : specialIn K (.builtin "object.__class__") "__get__" = some (some (.builtin "getset_descriptor.__get__")))
    (htk : takesIn K (.builtin "object.__class__") = some true) (hm : mroIn K C (.type "object") = some true)
    (n1 : kitOne K (.type "NoneType") (.ref C) = some false) (n2 : kitOne K (.type "bool") (.ref C) = some false) (n3 : kitOne K (.type "int") (.ref C) = some false) (n4 : kitOne K (.type "str") (.ref C) = some false) (n5 : kitOne K (.type "tuple") (.ref C) = some false) (n6 : kitOne K (.type "list") (.ref C) = some false) : IsC K C :=
  ⟨ha, hn, htk, hm, fun T hT => by
    unfold sixT at hT
    simp only [List.mem_cons, List.not_mem_nil, or_false] at hT
    rcases hT with rfl | rfl | rfl | rfl | rfl | rfl <;> assumption⟩
end
end ML
set_option Elab.async false
set_option linter.all false
namespace U
open PySem L2 ML
def B__law_draws_f854 : SM :=
  (seqS (setS 2 (compO (iterM (nameM 0)) (.nm 3) yesT (opV absG (consA (opV intG (consA (nameM 3) nilA)) nilA)) [3]))
    (seqS (setS 4 (lsO nilA))
    (seqS (gcS [false, false, false, false, true, false, false, false] (forS (itA rngG1 (consA (nameM 1) nilA)) (.nm 5) (gcS [true, false, true, false, true, false, false, false] (seqS (setS 3 (nameM 5))
    (seqS (ifS (tstM (op2 gtI (opV lenG (consA (nameM 0) nilA)) (cM (.int 0)))) (seqS (setS 6 (op2 modI (nameM 5) (opV lenG (consA (nameM 0) nilA))))
    (seqS (setS 3 (opV intG (consA (op2 gIx (nameM 0) (nameM 6)) nilA)))
    (ifS (andT (tstM (op2 geI (nameM 3) (op2 powI (cM (.int 10)) (cM (.int 18))))) (tstM (op2 gtI (op2 gIx (nameM 2) (nameM 6)) (cM (.int 0))))) (seqS (exprS (mthM isLs appF (nameM 4) (consA (op2 modI (opV intG (consA (op2 gIx (nameM 2) (nameM 6)) nilA)) (cM (.int 1000003))) nilA)))
    (seqS (stoS (nameM 2) (nameM 6) (op2 fdivI (opV intG (consA (op2 gIx (nameM 2) (nameM 6)) nilA)) (cM (.int 1000003))))
    cntS)) passS))) passS)
    (seqS (setS 7 (op2 modI (opV intG (consA (op2 addG (op2 addG (op2 mulI (nameM 3) (cM (.int 48271))) (op2 mulI (nameM 5) (cM (.int 69621)))) (cM (.int 11))) nilA)) (cM (.int 2147483647))))
    (seqS (setS 7 (op2 modI (opV intG (consA (op2 addG (op2 fdivI (op2 mulI (nameM 7) (nameM 7)) (cM (.int 4096))) (nameM 7)) nilA)) (cM (.int 2147483629))))
    (exprS (mthM isLs appF (nameM 4) (consA (op2 modI (opV intG (consA (op2 addG (op2 fdivI (op2 mulI (nameM 7) (nameM 7)) (cM (.int 4096))) (op2 mulI (nameM 5) (cM (.int 7919)))) nilA)) (cM (.int 2147483629))) nilA))))))))))
    (retS (nameM 4)))))
def F__law_draws_f854 : FP := fnP 8 B__law_draws_f854
def B__law_take_e5cf : SM :=
  (seqS (setS 2 (op2 gIx (nameM 0) (cM (.int 1))))
    (seqS (stoS (nameM 0) (cM (.int 1)) (op2 addG (nameM 2) (cM (.int 1))))
    (seqS (setS 3 (op2 gIx (nameM 0) (cM (.int 0))))
    (seqS (ifS (tstM (op2 geI (nameM 2) (opV lenG (consA (nameM 3) nilA)))) (retS (cM (.int 0))) passS)
    (retS (op2 modI (op2 fdivI (opV intG (consA (op2 gIx (nameM 3) (nameM 2)) nilA)) (cM (.int 7))) (nameM 1)))))))
def F__law_take_e5cf : FS := fnS 4 B__law_take_e5cf
def B__law_like_534a (F_self : FP) : SM :=
  (seqS (ifS (orT (tstM (isiT "tuple" (nameM 1))) (tstM (isiT "list" (nameM 1)))) (seqS (ifS (orT (tstM (op2 (eqG true) (isiT "tuple" (nameM 0)) (isiT "tuple" (nameM 1)))) (tstM (op2 (eqG true) (isiT "list" (nameM 0)) (isiT "list" (nameM 1))))) (retS (cM (.bl false))) passS)
    (seqS (ifS (tstM (op2 (eqG true) (opV lenG (consA (nameM 0) nilA)) (opV lenG (consA (nameM 1) nilA)))) (retS (cM (.bl false))) passS)
    (seqS (gcS [false, false, false] (forS (itA rngG1 (consA (opV lenG (consA (nameM 1) nilA)) nilA)) (.nm 2) (gcS [true, true, false] (ifS (notT (tstM (callP (arity 2 F_self) (consA (op2 gIx (nameM 0) (nameM 2)) (consA (op2 gIx (nameM 1) (nameM 2)) nilA))))) (retS (cM (.bl false))) passS))))
    (retS (cM (.bl true)))))) passS)
    (seqS (ifS (tstM (op2 isN (nameM 1) (cM .non))) (retS (op2 isN (nameM 0) (cM .non))) passS)
    (seqS (ifS (orT (tstM (isiT "bool" (nameM 1))) (tstM (isiT "bool" (nameM 0)))) (retS (andV (isiT "bool" (nameM 1)) (andV (isiT "bool" (nameM 0)) (op2 (eqG false) (nameM 0) (nameM 1))))) passS)
    (seqS (ifS (tstM (isiT "str" (nameM 1))) (retS (andV (isiT "str" (nameM 0)) (op2 (eqG false) (nameM 0) (nameM 1)))) passS)
    (retS (andV (isiT "int" (nameM 0)) (op2 (eqG false) (nameM 0) (nameM 1))))))))
def F__law_like_534a : Nat → FP
  | 0 => fun _ => .bad
  | n + 1 => fnP 3 (B__law_like_534a (F__law_like_534a n))
def B__law_lot_2987 : SM :=
  (seqS (setS 2 (opV tupleG (consA (compM (itA rngG1 (consA (nameM 1) nilA)) (.nm 3) (tstM (op2 (eqG false) (callL (arityS 2 F__law_take_e5cf) (consA (nameM 0) (consA (cM (.int 2)) nilA))) (cM (.int 0)))) (nameM 3) [3]) nilA)))
    (seqS (ifS (tstM (op2 (eqG false) (opV lenG (consA (nameM 2) nilA)) (cM (.int 0)))) (setS 2 (opA tupG (consA (callL (arityS 2 F__law_take_e5cf) (consA (nameM 0) (consA (nameM 1) nilA))) nilA))) passS)
    (retS (nameM 2))))
def F__law_lot_2987 : FS := fnS 4 B__law_lot_2987
def B__law_placing_eb96 : SM :=
  (retS (opV tupleG (consA (compM (itA rngG1 (consA (nameM 2) nilA)) (.nm 3) yesT (callL (arityS 2 F__law_lot_2987) (consA (nameM 0) (consA (nameM 1) nilA))) [3]) nilA)))
def F__law_placing_eb96 : FS := fnS 4 B__law_placing_eb96
end U
set_option Elab.async false
set_option linter.all false
namespace U
open PySem L2 ML
def B_is_from_to_bc13 : SM :=
  (retS (andV (isiT "int" (nameM 0)) (andV (notV (isiT "bool" (nameM 0))) (chainM leI leI (nameM 1) (nameM 0) (nameM 2)))))
def F_is_from_to_bc13 : FP := fnP 3 B_is_from_to_bc13
def B__law_cluster_0997 : SM :=
  (seqS (setS 2 (op2 addG (cM (.int 1)) (callL (arityS 2 F__law_take_e5cf) (consA (nameM 0) (consA (nameM 1) nilA)))))
    (seqS (setS 3 (opV tupleG (consA (compM (itA rngG1 (consA (nameM 2) nilA)) (.nm 4) yesT (op2 gIx (opA flG (consA (cM (.int 0)) (consA (cM (.int 1)) (consA (cM (.int 2)) (consA (cM (.int 3)) (consA (cM (.int 1)) (consA (cM (.int 99)) nilA))))))) (callL (arityS 2 F__law_take_e5cf) (consA (nameM 0) (consA (cM (.int 6)) nilA)))) [4]) nilA)))
    (seqS (setS 5 (opV tupleG (consA (compM (itA rngG1 (consA (nameM 2) nilA)) (.nm 4) yesT (op2 gIx (opA flG (consA (cM (.int 0)) (consA (cM (.int 1)) (consA (cM (.int 2)) (consA (cM (.int 3)) (consA (cM (.int 1)) (consA (cM (.int 2)) (consA (cM (.int 99)) (consA (cM (.int 4)) nilA))))))))) (callL (arityS 2 F__law_take_e5cf) (consA (nameM 0) (consA (cM (.int 8)) nilA)))) [4]) nilA)))
    (retS (opA tupG (consA (nameM 3) (consA (nameM 5) (consA (opV tupleG (consA (compM (itA rngG1 (consA (nameM 2) nilA)) (.nm 4) yesT (op2 addG (cM (.int 1)) (callL (arityS 2 F__law_take_e5cf) (consA (nameM 0) (consA (cM (.int 8)) nilA)))) [4]) nilA)) nilA))))))))
def F__law_cluster_0997 : FS := fnS 6 B__law_cluster_0997
def B_Cluster___init___47d9 : SM :=
  (seqS (ifS (orT (notT (tstM (isiT2 "list" "tuple" (nameM 1)))) (notT (tstM (chainM leI leI (cM (.int 1)) (opV lenG (consA (nameM 1) nilA)) (cM (.int 8)))))) (raiseS 1 2 (consA (cM (.str "racks")) (consA (cM (.int 0)) nilA))) passS)
    (seqS (gcS [true, true, true, true, false, false, false, false] (forS (itA enG (consA (nameM 1) nilA)) (.tp [(.nm 4), (.nm 5)]) (gcS [true, true, true, true, false, false, false, false] (ifS (notT (tstM (callP (arity 3 F_is_from_to_bc13) (consA (nameM 5) (consA (cM (.int 0)) (consA (cM (.int 99)) nilA)))))) (raiseS 1 2 (consA (cM (.str "racks")) (consA (nameM 4) nilA))) passS))))
    (seqS (ifS (orT (notT (tstM (isiT2 "list" "tuple" (nameM 2)))) (tstM (op2 (eqG true) (opV lenG (consA (nameM 2) nilA)) (opV lenG (consA (nameM 1) nilA))))) (raiseS 1 2 (consA (cM (.str "rooms")) (consA (cM (.int 0)) nilA))) passS)
    (seqS (gcS [true, true, true, true, false, false, false, false] (forS (itA enG (consA (nameM 2) nilA)) (.tp [(.nm 4), (.nm 6)]) (gcS [true, true, true, true, false, false, false, false] (ifS (notT (tstM (callP (arity 3 F_is_from_to_bc13) (consA (nameM 6) (consA (cM (.int 0)) (consA (cM (.int 99)) nilA)))))) (raiseS 1 2 (consA (cM (.str "rooms")) (consA (nameM 4) nilA))) passS))))
    (seqS (ifS (orT (notT (tstM (isiT2 "list" "tuple" (nameM 3)))) (tstM (op2 (eqG true) (opV lenG (consA (nameM 3) nilA)) (opV lenG (consA (nameM 1) nilA))))) (raiseS 1 2 (consA (cM (.str "rates")) (consA (cM (.int 0)) nilA))) passS)
    (seqS (gcS [true, true, true, true, false, false, false, false] (forS (itA enG (consA (nameM 3) nilA)) (.tp [(.nm 4), (.nm 7)]) (gcS [true, true, true, true, false, false, false, false] (ifS (notT (tstM (callP (arity 3 F_is_from_to_bc13) (consA (nameM 7) (consA (cM (.int 1)) (consA (cM (.int 8)) nilA)))))) (raiseS 1 2 (consA (cM (.str "rates")) (consA (nameM 4) nilA))) passS))))
    (seqS (attS "racks" (ocL [20]) (nameM 0) (opV tupleG (consA (nameM 1) nilA)))
    (seqS (attS "rooms" (ocL [20]) (nameM 0) (opV tupleG (consA (nameM 2) nilA)))
    (seqS (attS "rates" (ocL [20]) (nameM 0) (opV tupleG (consA (nameM 3) nilA)))
    (attS "store_count" (ocL [20]) (nameM 0) (opV lenG (consA (nameM 1) nilA))))))))))))
def F_Cluster___init___47d9 : FS := fnS 8 B_Cluster___init___47d9
end U
set_option Elab.async false
set_option linter.all false
namespace U
open PySem L2 ML
def B__law_wishes_139d : SM :=
  (retS (opV tupleG (consA (compM (itA rngG1 (consA (nameM 1) nilA)) (.nm 2) yesT (op2 addG (cM (.int 1)) (callL (arityS 2 F__law_take_e5cf) (consA (nameM 0) (consA (op2 gIx (opA flG (consA (cM (.int 3)) (consA (cM (.int 2)) nilA))) (callL (arityS 2 F__law_take_e5cf) (consA (nameM 0) (consA (cM (.int 2)) nilA)))) nilA)))) [2]) nilA)))
def F__law_wishes_139d : FS := fnS 3 B__law_wishes_139d
end U
set_option Elab.async false
set_option linter.all false
namespace U
open PySem L2 ML
def B_integer_told_7ae3 : SM :=
  (seqS (ifS (orT (notT (tstM (chainM leI leI (cM (.int 1)) (opV lenG (consA (nameM 0) nilA)) (cM (.int 2))))) (notT (tstM (opV allG (consA (compM (iterM (nameM 0)) (.nm 1) yesT (op2 (inSG false) (nameM 1) (cM (.str "0123456789"))) [1]) nilA))))) (retS (op1 negI (cM (.int 1)))) passS)
    (seqS (ifS (andT (tstM (op2 gtI (opV lenG (consA (nameM 0) nilA)) (cM (.int 1)))) (tstM (op2 (eqG false) (op2 gIx (nameM 0) (cM (.int 0))) (cM (.str "0"))))) (retS (op1 negI (cM (.int 1)))) passS)
    (retS (opV intSG (consA (nameM 0) nilA)))))
def F_integer_told_7ae3 : FP := fnP 2 B_integer_told_7ae3
def B_lot_told_47c5 : SM :=
  (seqS (setS 2 (compM (iterM (txtM splitT (nameM 0) (cM (.str ",")))) (.nm 3) yesT (callP (arity 1 F_integer_told_7ae3) (consA (nameM 3) nilA)) [3]))
    (seqS (ifS (notT (tstM (opV allG (consA (compM (iterM (nameM 2)) (.nm 4) yesT (chainM leI ltI (cM (.int 0)) (nameM 4) (nameM 1)) [4]) nilA)))) (retS (cM .non)) passS)
    (seqS (ifS (notT (tstM (opV allG (consA (compM (itA rngG2 (consA (cM (.int 1)) (consA (opV lenG (consA (nameM 2) nilA)) nilA))) (.nm 5) yesT (op2 ltI (op2 gIx (nameM 2) (op2 subI (nameM 5) (cM (.int 1)))) (op2 gIx (nameM 2) (nameM 5))) [5]) nilA)))) (retS (cM .non)) passS)
    (retS (opV tupleG (consA (nameM 2) nilA))))))
def F_lot_told_47c5 : FP := fnP 6 B_lot_told_47c5
def B_lot_text_1333 : SM :=
  (retS (txtM joinT (cM (.str ",")) (compM (iterM (nameM 0)) (.nm 1) yesT (opV strG (consA (nameM 1) nilA)) [1])))
def F_lot_text_1333 : FP := fnP 2 B_lot_text_1333
def B_begins_a4ac : SM :=
  (seqS (setS 1 (lsO nilA))
    (seqS (setS 2 (cM (.int 0)))
    (seqS (gcS [false, true, false, false] (forS (iterM (nameM 0)) (.nm 3) (gcS [false, true, true, false] (seqS (exprS (mthM isLs appF (nameM 1) (consA (nameM 2) nilA)))
    (augS 2 addIS (op2 addG (opV lenG (consA (nameM 3) nilA)) (cM (.int 1))))))))
    (retS (nameM 1)))))
def F_begins_a4ac : FP := fnP 4 B_begins_a4ac
def B_write_world_255a : SM :=
  (seqS (setS 3 (lsO (consA (op2 addG (op2 addG (op2 addG (cM (.str "cluster ")) (opV strG (consA (attM "store_count" (ixL ((20, 3) :: [])) (nameM 0)) nilA))) (cM (.str " "))) (opV strG (consA (opV lenG (consA (nameM 1) nilA)) nilA))) nilA)))
    (seqS (gcS [false, true, true, true, false, false, false, false, false] (forS (itA rngG1 (consA (attM "store_count" (ixL ((20, 3) :: [])) (nameM 0)) nilA)) (.nm 4) (gcS [true, true, true, true, false, false, false, false, false] (seqS (setS 5 (opA flG (consA (op2 gIx (attM "racks" (ixL ((20, 0) :: [])) (nameM 0)) (nameM 4)) (consA (op2 gIx (attM "rooms" (ixL ((20, 1) :: [])) (nameM 0)) (nameM 4)) (consA (op2 gIx (attM "rates" (ixL ((20, 2) :: [])) (nameM 0)) (nameM 4)) nilA)))))
    (exprS (mthM isLs appF (nameM 3) (consA (op2 addG (cM (.str "store ")) (txtM joinT (cM (.str " ")) (compM (iterM (nameM 5)) (.nm 6) yesT (opV strG (consA (nameM 6) nilA)) [6]))) nilA)))))))
    (seqS (gcS [false, false, false, true, false, false, false, false, false] (forS (itA enG (consA (nameM 1) nilA)) (.tp [(.nm 7), (.nm 8)]) (gcS [false, false, true, true, false, false, false, false, false] (exprS (mthM isLs appF (nameM 3) (consA (op2 addG (op2 addG (op2 addG (cM (.str "piece ")) (opV strG (consA (nameM 8) nilA))) (cM (.str " "))) (callP (arity 1 F_lot_text_1333) (consA (op2 gIx (nameM 2) (nameM 7)) nilA))) nilA))))))
    (retS (txtM joinT (cM (.str "\n")) (nameM 3))))))
def F_write_world_255a : FP := fnP 9 B_write_world_255a
def B__numbers_6b34 : SM :=
  (seqS (setS 3 (txtM splitT (nameM 0) (cM (.str " "))))
    (seqS (ifS (orT (tstM (op2 (eqG true) (op2 gIx (nameM 3) (cM (.int 0))) (nameM 1))) (tstM (op2 (eqG true) (opV lenG (consA (nameM 3) nilA)) (op2 addG (opV lenG (consA (nameM 2) nilA)) (cM (.int 1)))))) (retS (cM .non)) passS)
    (seqS (setS 4 (compM (iterM (slM (nameM 3) (some (cM (.int 1))) none)) (.nm 5) yesT (callP (arity 1 F_integer_told_7ae3) (consA (nameM 5) nilA)) [5]))
    (seqS (gcS [false, false, false, false, true, false, false, false, false] (forS (itA zipG (consA (nameM 4) (consA (nameM 2) nilA))) (.tp [(.nm 6), (.tp [(.nm 7), (.nm 8)])]) (gcS [false, false, false, false, true, false, false, false, false] (ifS (notT (tstM (chainM leI leI (nameM 7) (nameM 6) (nameM 8)))) (retS (cM .non)) passS))))
    (retS (nameM 4))))))
def F__numbers_6b34 : FP := fnP 9 B__numbers_6b34
def B__piece_8db6 : SM :=
  (seqS (setS 2 (txtM splitT (nameM 0) (cM (.str " "))))
    (seqS (ifS (orT (tstM (op2 (eqG true) (op2 gIx (nameM 2) (cM (.int 0))) (cM (.str "piece")))) (tstM (op2 (eqG true) (opV lenG (consA (nameM 2) nilA)) (cM (.int 3))))) (retS (cM .non)) passS)
    (seqS (setS 3 (callP (arity 1 F_integer_told_7ae3) (consA (op2 gIx (nameM 2) (cM (.int 1))) nilA)))
    (seqS (setS 4 (callP (arity 2 F_lot_told_47c5) (consA (op2 gIx (nameM 2) (cM (.int 2))) (consA (nameM 1) nilA))))
    (seqS (ifS (orT (notT (tstM (chainM leI leI (cM (.int 1)) (nameM 3) (cM (.int 3))))) (tstM (op2 isN (nameM 4) (cM .non)))) (retS (cM .non)) passS)
    (retS (opA tupG (consA (nameM 3) (consA (nameM 4) nilA)))))))))
def F__piece_8db6 : FP := fnP 5 B__piece_8db6
def B__law_lines_4c5b : SM :=
  (seqS (setS 3 (lsO (consA (op2 addG (op2 addG (op2 addG (cM (.str "cluster ")) (opV strG (consA (opV lenG (consA (op2 gIx (nameM 0) (cM (.int 0))) nilA)) nilA))) (cM (.str " "))) (opV strG (consA (opV lenG (consA (nameM 1) nilA)) nilA))) nilA)))
    (seqS (gcS [false, true, true, true, false, false, false] (forS (itA rngG1 (consA (opV lenG (consA (op2 gIx (nameM 0) (cM (.int 0))) nilA)) nilA)) (.nm 4) (gcS [true, true, true, true, false, false, false] (exprS (mthM isLs appF (nameM 3) (consA (op2 addG (cM (.str "store ")) (txtM joinT (cM (.str " ")) (compM (iterM (nameM 0)) (.nm 5) yesT (opV strG (consA (op2 gIx (nameM 5) (nameM 4)) nilA)) [5]))) nilA))))))
    (seqS (gcS [false, false, false, true, false, false, false] (forS (itA rngG1 (consA (opV lenG (consA (nameM 1) nilA)) nilA)) (.nm 6) (gcS [false, true, true, true, false, false, false] (exprS (mthM isLs appF (nameM 3) (consA (op2 addG (op2 addG (op2 addG (cM (.str "piece ")) (opV strG (consA (op2 gIx (nameM 1) (nameM 6)) nilA))) (cM (.str " "))) (txtM joinT (cM (.str ",")) (compM (iterM (op2 gIx (nameM 2) (nameM 6))) (.nm 4) yesT (opV strG (consA (nameM 4) nilA)) [4]))) nilA))))))
    (retS (nameM 3)))))
def F__law_lines_4c5b : FP := fnP 7 B__law_lines_4c5b
def B_read_world_b56d : SM :=
  (seqS (setS 1 (txtM splitT (nameM 0) (cM (.str "\n"))))
    (seqS (setS 2 (callP (arity 1 F_begins_a4ac) (consA (nameM 1) nilA)))
    (seqS (setS 3 (callP (arity 3 F__numbers_6b34) (consA (op2 gIx (nameM 1) (cM (.int 0))) (consA (cM (.str "cluster")) (consA (opA flG (consA (opA tupG (consA (cM (.int 1)) (consA (cM (.int 8)) nilA))) (consA (opA tupG (consA (cM (.int 0)) (consA (cM (.int 40)) nilA))) nilA))) nilA)))))
    (seqS (ifS (tstM (op2 isN (nameM 3) (cM .non))) (raiseS 10 2 (consA (nameM 0) (consA (cM (.int 0)) nilA))) passS)
    (seqS (asgLS [(.nm 4), (.nm 5)] (nameM 3))
    (seqS (setS 6 (lsO nilA))
    (seqS (setS 7 (lsO nilA))
    (seqS (setS 8 (lsO nilA))
    (seqS (gcS [true, true, false, false, true, true, true, true, true, false, false, false, false, false] (forS (itA rngG2 (consA (cM (.int 1)) (consA (opV lenG (consA (nameM 1) nilA)) nilA))) (.nm 9) (gcS [true, true, true, false, true, true, true, true, true, false, false, false, false, false] (ifS (tstM (op2 leI (nameM 9) (nameM 4))) (seqS (setS 10 (callP (arity 3 F__numbers_6b34) (consA (op2 gIx (nameM 1) (nameM 9)) (consA (cM (.str "store")) (consA (opA flG (consA (opA tupG (consA (cM (.int 0)) (consA (cM (.int 99)) nilA))) (consA (opA tupG (consA (cM (.int 0)) (consA (cM (.int 99)) nilA))) (consA (opA tupG (consA (cM (.int 1)) (consA (cM (.int 8)) nilA))) nilA)))) nilA)))))
    (seqS (ifS (tstM (op2 isN (nameM 10) (cM .non))) (raiseS 10 2 (consA (nameM 0) (consA (op2 gIx (nameM 2) (nameM 9)) nilA))) passS)
    (exprS (mthM isLs appF (nameM 6) (consA (nameM 10) nilA))))) (seqS (setS 11 (callP (arity 2 F__piece_8db6) (consA (op2 gIx (nameM 1) (nameM 9)) (consA (nameM 4) nilA))))
    (seqS (ifS (orT (tstM (op2 gtI (nameM 9) (op2 addG (nameM 4) (nameM 5)))) (tstM (op2 isN (nameM 11) (cM .non)))) (raiseS 10 2 (consA (nameM 0) (consA (op2 gIx (nameM 2) (nameM 9)) nilA))) passS)
    (seqS (exprS (mthM isLs appF (nameM 7) (consA (op2 gIx (nameM 11) (cM (.int 0))) nilA)))
    (exprS (mthM isLs appF (nameM 8) (consA (op2 gIx (nameM 11) (cM (.int 1))) nilA))))))))))
    (seqS (ifS (tstM (op2 leI (opV lenG (consA (nameM 1) nilA)) (op2 addG (nameM 4) (nameM 5)))) (raiseS 10 2 (consA (nameM 0) (consA (opV lenG (consA (nameM 0) nilA)) nilA))) passS)
    (seqS (setS 12 (callP (arity 3 (mkP 20 ["racks", "rooms", "rates", "store_count"] F_Cluster___init___47d9)) (consA (compW (nameM 6) (.nm 13) yesT (op2 gIx (nameM 13) (cM (.int 0))) [13]) (consA (compW (nameM 6) (.nm 13) yesT (op2 gIx (nameM 13) (cM (.int 1))) [13]) (consA (compW (nameM 6) (.nm 13) yesT (op2 gIx (nameM 13) (cM (.int 2))) [13]) nilA)))))
    (retS (opA tupG (consA (nameM 12) (consA (opV tupleG (consA (nameM 7) nilA)) (consA (opV tupleG (consA (nameM 8) nilA)) nilA))))))))))))))))
def F_read_world_b56d : FP := fnP 14 B_read_world_b56d
def B__law_world_is_8de4 : SM :=
  (seqS (ifS (orT (notT (tstM (isiT "tuple" (nameM 0)))) (orT (tstM (op2 (eqG true) (opV lenG (consA (nameM 0) nilA)) (cM (.int 3)))) (notT (tstM (isoM 20 (op2 gIx (nameM 0) (cM (.int 0)))))))) (retS (cM (.bl false))) passS)
    (seqS (ifS (notT (tstM (callP (arity 2 (F__law_like_534a 20)) (consA (opA tupG (consA (attM "racks" (ixL ((20, 0) :: [])) (op2 gIx (nameM 0) (cM (.int 0)))) (consA (attM "rooms" (ixL ((20, 1) :: [])) (op2 gIx (nameM 0) (cM (.int 0)))) (consA (attM "rates" (ixL ((20, 2) :: [])) (op2 gIx (nameM 0) (cM (.int 0)))) nilA)))) (consA (nameM 1) nilA))))) (retS (cM (.bl false))) passS)
    (retS (callP (arity 2 (F__law_like_534a 20)) (consA (slM (nameM 0) (some (cM (.int 1))) none) (consA (opA tupG (consA (nameM 2) (consA (nameM 3) nilA))) nilA))))))
def F__law_world_is_8de4 : FP := fnP 4 B__law_world_is_8de4
def B__law_right_9b4e : SM :=
  (seqS (setS 3 (txtM joinT (cM (.str "\n")) (callP (arity 3 F__law_lines_4c5b) (consA (nameM 0) (consA (nameM 1) (consA (nameM 2) nilA))))))
    (seqS (setS 4 (callP (arity 3 (mkP 20 ["racks", "rooms", "rates", "store_count"] F_Cluster___init___47d9)) (consA (op2 gIx (nameM 0) (cM (.int 0))) (consA (op2 gIx (nameM 0) (cM (.int 1))) (consA (op2 gIx (nameM 0) (cM (.int 2))) nilA)))))
    (retS (andV (callP (arity 2 (F__law_like_534a 20)) (consA (callP (arity 3 F_write_world_255a) (consA (nameM 4) (consA (nameM 1) (consA (nameM 2) nilA)))) (consA (nameM 3) nilA))) (callP (arity 4 F__law_world_is_8de4) (consA (callP (arity 1 F_read_world_b56d) (consA (nameM 3) nilA)) (consA (nameM 0) (consA (nameM 1) (consA (nameM 2) nilA)))))))))
def F__law_right_9b4e : FP := fnP 5 B__law_right_9b4e
def B_law_7a00 : SM :=
  (seqS (setS 1 (lsO (consA (callP (arity 2 F__law_draws_f854) (consA (nameM 0) (consA (cM (.int 700)) nilA))) (consA (cM (.int 0)) nilA))))
    (seqS (setS 2 (callL (arityS 2 F__law_cluster_0997) (consA (nameM 1) (consA (cM (.int 8)) nilA))))
    (seqS (setS 3 (op2 gIx (opA flG (consA (callL (arityS 2 F__law_take_e5cf) (consA (nameM 1) (consA (cM (.int 6)) nilA))) (consA (cM (.int 40)) nilA))) (op2 fdivI (callL (arityS 2 F__law_take_e5cf) (consA (nameM 1) (consA (cM (.int 9)) nilA))) (cM (.int 8)))))
    (seqS (setS 4 (callL (arityS 2 F__law_wishes_139d) (consA (nameM 1) (consA (nameM 3) nilA))))
    (seqS (setS 5 (callL (arityS 3 F__law_placing_eb96) (consA (nameM 1) (consA (opV lenG (consA (op2 gIx (nameM 2) (cM (.int 0))) nilA)) (consA (nameM 3) nilA)))))
    (seqS (setS 6 (callL (arityS 2 F__law_cluster_0997) (consA (nameM 1) (consA (cM (.int 3)) nilA))))
    (seqS (setS 7 (callL (arityS 2 F__law_wishes_139d) (consA (nameM 1) (consA (cM (.int 2)) nilA))))
    (seqS (ifS (orT (notT (tstM (callP (arity 3 F__law_right_9b4e) (consA (nameM 2) (consA (nameM 4) (consA (nameM 5) nilA)))))) (notT (tstM (callP (arity 3 F__law_right_9b4e) (consA (nameM 6) (consA (nameM 7) (consA (callL (arityS 3 F__law_placing_eb96) (consA (nameM 1) (consA (opV lenG (consA (op2 gIx (nameM 6) (cM (.int 0))) nilA)) (consA (cM (.int 2)) nilA)))) nilA))))))) (retS (cM (.bl false))) passS)
    (retS (callP (arity 3 F__law_right_9b4e) (consA (nameM 2) (consA (nameM 4) (consA (nameM 5) nilA)))))))))))))
def F_law_7a00 : FP := fnP 8 B_law_7a00
end U
set_option Elab.async false
set_option linter.all false
set_option maxRecDepth 100000
set_option maxHeartbeats 4000000
namespace K05
open PySem PySem.Spec PyProof.Rows L2 ML U
def topS (i : Nat) : Stmt := PySem.Challenge.pw_movedwhole_k05_texts_of_worlds.main.body.getD i (.Pass ⟨0, 0, 0, 0⟩)
structure Tops (mg : Str → Option Value) : Prop where
  b_isinstance : mg "isinstance" = none
  b_int : mg "int" = none
  b_bool : mg "bool" = none
  b_len : mg "len" = none
  b_all : mg "all" = none
  b_range : mg "range" = none
  b_tuple : mg "tuple" = none
  b_str : mg "str" = none
  b_enumerate : mg "enumerate" = none
  b_zip : mg "zip" = none
  b_abs : mg "abs" = none
  b_list : mg "list" = none
  g_MOST_FIGURES : ∃ t, mg "MOST_FIGURES" = some (.int 2 t)
  g_MOST_WISH : ∃ t, mg "MOST_WISH" = some (.int 3 t)
  g_MOST_STORES : ∃ t, mg "MOST_STORES" = some (.int 8 t)
  g_MOST_NUMBER : ∃ t, mg "MOST_NUMBER" = some (.int 99 t)
  g_MOST_RATE : ∃ t, mg "MOST_RATE" = some (.int 8 t)
  g_MOST_PIECES : ∃ t, mg "MOST_PIECES" = some (.int 40 t)
structure Xs (P' : Program) (w : World) (G : Gd) (mg : Str → Option Value) (base : Heap) : Prop where
  h0 : G.hot = none
  x_InvalidCluster : ExcG P' w G mg base "InvalidCluster" 1 2 (fld2 "part" "place")
  x_InvalidText : ExcG P' w G mg base "InvalidText" 10 2 (fld2 "text" "at")
structure Cs (G : Gd) (mg : Str → Option Value) : Prop where
  c_Cluster : ClsG G mg "Cluster" 20 ["racks", "rooms", "rates", "store_count"]
  i_Cluster : L2.IsC G.K (G.cls 20)
abbrev s_is_from_to : Stmt := topS 9
theorem sc_is_from_to : FnScope ["value", "least", "most"] ["value", "least", "most"] (defScope s_is_from_to) := ⟨rfl, rfl, rfl, by decide +kernel, rfl, by decide +kernel, by decide +kernel⟩
abbrev s_integer_told : Stmt := topS 13
theorem sc_integer_told : FnScope ["word", "sign"] ["word"] (defScope s_integer_told) := ⟨rfl, rfl, rfl, by decide +kernel, rfl, by decide +kernel, by decide +kernel⟩
abbrev s_lot_told : Stmt := topS 14
theorem sc_lot_told : FnScope ["word", "store_count", "lot", "part", "store", "k"] ["word", "store_count"] (defScope s_lot_told) := ⟨rfl, rfl, rfl, by decide +kernel, rfl, by decide +kernel, by decide +kernel⟩
abbrev s_lot_text : Stmt := topS 15
theorem sc_lot_text : FnScope ["lot", "store"] ["lot"] (defScope s_lot_text) := ⟨rfl, rfl, rfl, by decide +kernel, rfl, by decide +kernel, by decide +kernel⟩
abbrev s_begins : Stmt := topS 16
theorem sc_begins : FnScope ["lines", "found", "at", "line"] ["lines"] (defScope s_begins) := ⟨rfl, rfl, rfl, by decide +kernel, rfl, by decide +kernel, by decide +kernel⟩
abbrev s_write_world : Stmt := topS 20
theorem sc_write_world : FnScope ["cluster", "wishes", "placing", "lines", "store", "told", "number", "piece", "wish"] ["cluster", "wishes", "placing"] (defScope s_write_world) := ⟨rfl, rfl, rfl, by decide +kernel, rfl, by decide +kernel, by decide +kernel⟩
abbrev s__numbers : Stmt := topS 22
theorem sc__numbers : FnScope ["line", "first", "bounds", "words", "numbers", "word", "number", "least", "most"] ["line", "first", "bounds"] (defScope s__numbers) := ⟨rfl, rfl, rfl, by decide +kernel, rfl, by decide +kernel, by decide +kernel⟩
abbrev s__piece : Stmt := topS 23
theorem sc__piece : FnScope ["line", "store_count", "words", "wish", "lot"] ["line", "store_count"] (defScope s__piece) := ⟨rfl, rfl, rfl, by decide +kernel, rfl, by decide +kernel, by decide +kernel⟩
abbrev s__law_draws : Stmt := topS 25
theorem sc__law_draws : FnScope ["_law_script", "_law_many", "_law_rests", "_law_cell", "_law_draws_here", "_law_k", "_law_at", "_law_mixed"] ["_law_script", "_law_many"] (defScope s__law_draws) := ⟨rfl, rfl, rfl, by decide +kernel, rfl, by decide +kernel, by decide +kernel⟩
abbrev s__law_take : Stmt := topS 26
theorem sc__law_take : FnScope ["_law_hand", "_law_many", "_law_at", "_law_draws_here"] ["_law_hand", "_law_many"] (defScope s__law_take) := ⟨rfl, rfl, rfl, by decide +kernel, rfl, by decide +kernel, by decide +kernel⟩
abbrev s__law_like : Stmt := topS 27
theorem sc__law_like : FnScope ["_law_found", "_law_due", "_law_at"] ["_law_found", "_law_due"] (defScope s__law_like) := ⟨rfl, rfl, rfl, by decide +kernel, rfl, by decide +kernel, by decide +kernel⟩
abbrev s__law_cluster : Stmt := topS 28
theorem sc__law_cluster : FnScope ["_law_hand", "_law_most", "_law_many", "_law_racks", "_law_v", "_law_rooms"] ["_law_hand", "_law_most"] (defScope s__law_cluster) := ⟨rfl, rfl, rfl, by decide +kernel, rfl, by decide +kernel, by decide +kernel⟩
abbrev s__law_lot : Stmt := topS 29
theorem sc__law_lot : FnScope ["_law_hand", "_law_many", "_law_found", "_law_v"] ["_law_hand", "_law_many"] (defScope s__law_lot) := ⟨rfl, rfl, rfl, by decide +kernel, rfl, by decide +kernel, by decide +kernel⟩
abbrev s__law_wishes : Stmt := topS 30
theorem sc__law_wishes : FnScope ["_law_hand", "_law_pieces", "_law_p"] ["_law_hand", "_law_pieces"] (defScope s__law_wishes) := ⟨rfl, rfl, rfl, by decide +kernel, rfl, by decide +kernel, by decide +kernel⟩
abbrev s__law_placing : Stmt := topS 31
theorem sc__law_placing : FnScope ["_law_hand", "_law_many", "_law_pieces", "_law_p"] ["_law_hand", "_law_many", "_law_pieces"] (defScope s__law_placing) := ⟨rfl, rfl, rfl, by decide +kernel, rfl, by decide +kernel, by decide +kernel⟩
abbrev s__law_lines : Stmt := topS 32
theorem sc__law_lines : FnScope ["_law_cluster_here", "_law_wishes_here", "_law_placing_here", "_law_lines_here", "_law_v", "_law_row", "_law_p"] ["_law_cluster_here", "_law_wishes_here", "_law_placing_here"] (defScope s__law_lines) := ⟨rfl, rfl, rfl, by decide +kernel, rfl, by decide +kernel, by decide +kernel⟩
abbrev s_Cluster___init__ : Stmt := (ML.clsBody (topS 10)).getD 0 (.Pass ⟨0, 0, 0, 0⟩)
theorem sc_Cluster___init__ : FnScope ["self", "racks", "rooms", "rates", "store", "rack", "room", "rate"] ["self", "racks", "rooms", "rates"] (defScope s_Cluster___init__) := ⟨rfl, rfl, rfl, by decide +kernel, rfl, by decide +kernel, by decide +kernel⟩
abbrev s_read_world : Stmt := topS 21
theorem sc_read_world : FnScope ["text", "lines", "places", "sizes", "store_count", "many", "stores", "wishes", "placing", "k", "store", "piece", "cluster", "row"] ["text"] (defScope s_read_world) := ⟨rfl, rfl, rfl, by decide +kernel, rfl, by decide +kernel, by decide +kernel⟩
abbrev s__law_world_is : Stmt := topS 33
theorem sc__law_world_is : FnScope ["_law_found", "_law_cluster_here", "_law_wishes_here", "_law_placing_here"] ["_law_found", "_law_cluster_here", "_law_wishes_here", "_law_placing_here"] (defScope s__law_world_is) := ⟨rfl, rfl, rfl, by decide +kernel, rfl, by decide +kernel, by decide +kernel⟩
abbrev s__law_right : Stmt := topS 34
theorem sc__law_right : FnScope ["_law_cluster_here", "_law_wishes_here", "_law_placing_here", "_law_text", "_law_made"] ["_law_cluster_here", "_law_wishes_here", "_law_placing_here"] (defScope s__law_right) := ⟨rfl, rfl, rfl, by decide +kernel, rfl, by decide +kernel, by decide +kernel⟩
abbrev s_law : Stmt := topS 35
theorem sc_law : FnScope ["_law_script", "_law_hand", "_law_one", "_law_pieces", "_law_wishes_here", "_law_placing_here", "_law_other", "_law_more"] ["_law_script"] (defScope s_law) := ⟨rfl, rfl, rfl, by decide +kernel, rfl, by decide +kernel, by decide +kernel⟩
theorem ok_is_from_to {P' : Program} {w : World} {G : Gd} {mg : Str → Option Value} {base : Heap} (T : Tops mg) (D : DefAt G.K mg "is_from_to" s_is_from_to ["value", "least", "most"])
    (CC : Cs G mg) :
    HasFn P' w G mg base "is_from_to" s_is_from_to ["value", "least", "most"] 1 (spP G 3 F_is_from_to_bc13) :=
  hasP (k := 0) D sc_is_from_to fun f cdv A outer sh H E c =>
    (dss_one (ds_ret (de_and (de_isi c rfl T.b_isinstance rfl T.b_int (by decide +kernel) (de_name 0)) (de_and (de_not (de_isi c rfl T.b_isinstance rfl T.b_bool (by decide +kernel) (de_name 0))) (de_b1 (de_chain cd_le cd_le (de_name 1) (de_name 0) (de_name 2)))))))
theorem ok_integer_told {P' : Program} {w : World} {G : Gd} {mg : Str → Option Value} {base : Heap} (T : Tops mg) (D : DefAt G.K mg "integer_told" s_integer_told ["word"])
    (CC : Cs G mg) :
    HasFn P' w G mg base "integer_told" s_integer_told ["word"] 1 (spP G 1 F_integer_told_7ae3) :=
  hasP (k := 0) D sc_integer_told fun f cdv A outer sh H E c =>
    (dss_cons (ds_if (dt_w (dw_or (dt_not (dt_chain cd_le cd_le de_int (de_callB (x := "len") (cr_len c) o_len rfl T.b_len (by decide +kernel) (da_cons (de_name 0) da_nil)) (de_gintE T.g_MOST_FIGURES))) (dw_or1 (dt_not (dt_val (de_callB (x := "all") (cr_allG c) o_all rfl T.b_all (by decide +kernel) (da_cons (de_comp (own := [("sign", 1)]) c (di_seq c (de_name 0)) (blkOk_by (N := ["word", "sign"]) (sc := defScope s_integer_told) (by decide +kernel)) (by decide) (fun _ _ _ _ _ => (dg_nm 1 (Ctx.blk c).hN)) (fun _ _ _ _ _ => pts_nil') (fun _ _ _ _ _ => (de_cmpD cd_inS (de_name 1) de_str))) da_nil))))))) (dss_one (ds_ret (de_neg de_int))) dss_nil)
    (dss_cons (ds_if (dt_w (dw_and (dt_cmp cd_gt (de_callB (x := "len") (cr_len c) o_len rfl T.b_len (by decide +kernel) (da_cons (de_name 0) da_nil)) de_int) (dw_and1 (dt_cmp (cd_eq c) (de_ix c (de_name 0) de_int) de_str)))) (dss_one (ds_ret (de_neg de_int))) dss_nil)
    (dss_one (ds_ret (de_callTy (x := "int") call_int_str o_intS rfl T.b_int (by decide +kernel) (da_cons (de_name 0) da_nil))))))
theorem ok_lot_told {P' : Program} {w : World} {G : Gd} {mg : Str → Option Value} {base : Heap} (T : Tops mg) (D : DefAt G.K mg "lot_told" s_lot_told ["word", "store_count"])
    (CC : Cs G mg)
    (h_integer_told : HasFn P' w G mg base "integer_told" s_integer_told ["word"] 1 (spP G 1 F_integer_told_7ae3)) :
    HasFn P' w G mg base "lot_told" s_lot_told ["word", "store_count"] 2 (spP G 2 F_lot_told_47c5) :=
  hasP (k := 1) D sc_lot_told fun f cdv A outer sh H E c =>
    (dss_cons (ds_set 2 c.hN (de_comp (own := [("part", 3)]) c (di_seq c (de_split (de_name 0) de_str)) (blkOk_by (N := ["word", "store_count", "lot", "part", "store", "k"]) (sc := defScope s_lot_told) (by decide +kernel)) (by decide) (fun _ _ _ _ _ => (dg_nm 3 (Ctx.blk c).hN)) (fun _ _ _ _ _ => pts_nil') (fun _ _ _ _ _ => (de_callH (Ctx.blk c) h_integer_told (da_cons (de_name 3) da_nil)))))
    (dss_cons (ds_if (dt_not (dt_val (de_callB (x := "all") (cr_allG c) o_all rfl T.b_all (by decide +kernel) (da_cons (de_comp (own := [("store", 4)]) c (di_seq c (de_name 2)) (blkOk_by (N := ["word", "store_count", "lot", "part", "store", "k"]) (sc := defScope s_lot_told) (by decide +kernel)) (by decide) (fun _ _ _ _ _ => (dg_nm 4 (Ctx.blk c).hN)) (fun _ _ _ _ _ => pts_nil') (fun _ _ _ _ _ => (de_chain cd_le cd_lt de_int (de_name 4) (de_name 1)))) da_nil)))) (dss_one (ds_ret de_non)) dss_nil)
    (dss_cons (ds_if (dt_not (dt_val (de_callB (x := "all") (cr_allG c) o_all rfl T.b_all (by decide +kernel) (da_cons (de_comp (own := [("k", 5)]) c (di_range2 rfl T.b_range (da_cons de_int (da_cons (de_callB (x := "len") (cr_len c) o_len rfl T.b_len (by decide +kernel) (da_cons (de_name 2) da_nil)) da_nil))) (blkOk_by (N := ["word", "store_count", "lot", "part", "store", "k"]) (sc := defScope s_lot_told) (by decide +kernel)) (by decide) (fun _ _ _ _ _ => (dg_nm 5 (Ctx.blk c).hN)) (fun _ _ _ _ _ => pts_nil') (fun _ _ _ _ _ => (de_cmpD cd_lt (de_ix (Ctx.blk c) (de_name 2) (de_sub (de_name 5) de_int)) (de_ix (Ctx.blk c) (de_name 2) (de_name 5))))) da_nil)))) (dss_one (ds_ret de_non)) dss_nil)
    (dss_one (ds_ret (de_callTy (x := "tuple") (cr_tuple c) o_tuple rfl T.b_tuple (by decide +kernel) (da_cons (de_name 2) da_nil)))))))
theorem ok_lot_text {P' : Program} {w : World} {G : Gd} {mg : Str → Option Value} {base : Heap} (T : Tops mg) (D : DefAt G.K mg "lot_text" s_lot_text ["lot"])
    (CC : Cs G mg) :
    HasFn P' w G mg base "lot_text" s_lot_text ["lot"] 1 (spP G 1 F_lot_text_1333) :=
  hasP (k := 0) D sc_lot_text fun f cdv A outer sh H E c =>
    (dss_one (ds_ret (de_join c de_str (de_comp (own := [("store", 1)]) c (di_seq c (de_name 0)) (blkOk_by (N := ["lot", "store"]) (sc := defScope s_lot_text) (by decide +kernel)) (by decide) (fun _ _ _ _ _ => (dg_nm 1 (Ctx.blk c).hN)) (fun _ _ _ _ _ => pts_nil') (fun _ _ _ _ _ => (de_callTy (x := "str") call_str_int o_str rfl T.b_str (by decide +kernel) (da_cons (de_name 1) da_nil)))))))
theorem ok_begins {P' : Program} {w : World} {G : Gd} {mg : Str → Option Value} {base : Heap} (T : Tops mg) (D : DefAt G.K mg "begins" s_begins ["lines"])
    (CC : Cs G mg) :
    HasFn P' w G mg base "begins" s_begins ["lines"] 1 (spP G 1 F_begins_a4ac) :=
  hasP (k := 0) D sc_begins fun f cdv A outer sh H E c =>
    (dss_cons (ds_set 1 c.hN (de_ls da_nil))
    (dss_cons (ds_set 2 c.hN de_int)
    (dss_cons (ds_gc [false, true, false, false] (ds_for c (di_seq c (de_name 0)) (dg_nm 3 c.hN) (dss_gc [false, true, true, false] (dss_cons (ds_expr (de_app c (de_name 1) (de_name 2)))
    (dss_one (ds_aug c.hN iop_addIS o_addIS (de_add c (de_callB (x := "len") (cr_len c) o_len rfl T.b_len (by decide +kernel) (da_cons (de_name 3) da_nil)) de_int)))))))
    (dss_one (ds_ret (de_name 1))))))
theorem ok_write_world {P' : Program} {w : World} {G : Gd} {mg : Str → Option Value} {base : Heap} (T : Tops mg) (D : DefAt G.K mg "write_world" s_write_world ["cluster", "wishes", "placing"])
    (CC : Cs G mg)
    (h_lot_text : HasFn P' w G mg base "lot_text" s_lot_text ["lot"] 1 (spP G 1 F_lot_text_1333)) :
    HasFn P' w G mg base "write_world" s_write_world ["cluster", "wishes", "placing"] 2 (spP G 3 F_write_world_255a) :=
  hasP (k := 1) D sc_write_world fun f cdv A outer sh H E c =>
    (dss_cons (ds_set 3 c.hN (de_ls (da_cons (de_add c (de_add c (de_add c de_str (de_callTy (x := "str") call_str_int o_str rfl T.b_str (by decide +kernel) (da_cons (de_att (ix := ixL ((20, 3) :: [])) c (ixc_cons CC.c_Cluster (by decide) (by rfl) ixc_nil) (de_name 0)) da_nil))) de_str) (de_callTy (x := "str") call_str_int o_str rfl T.b_str (by decide +kernel) (da_cons (de_callB (x := "len") (cr_len c) o_len rfl T.b_len (by decide +kernel) (da_cons (de_name 1) da_nil)) da_nil))) da_nil)))
    (dss_cons (ds_gc [false, true, true, true, false, false, false, false, false] (ds_for c (di_range1 rfl T.b_range (da_cons (de_att (ix := ixL ((20, 3) :: [])) c (ixc_cons CC.c_Cluster (by decide) (by rfl) ixc_nil) (de_name 0)) da_nil)) (dg_nm 4 c.hN) (dss_gc [true, true, true, true, false, false, false, false, false] (dss_cons (ds_set 5 c.hN (de_fl (da_cons (de_ix c (de_att (ix := ixL ((20, 0) :: [])) c (ixc_cons CC.c_Cluster (by decide) (by rfl) ixc_nil) (de_name 0)) (de_name 4)) (da_cons (de_ix c (de_att (ix := ixL ((20, 1) :: [])) c (ixc_cons CC.c_Cluster (by decide) (by rfl) ixc_nil) (de_name 0)) (de_name 4)) (da_cons (de_ix c (de_att (ix := ixL ((20, 2) :: [])) c (ixc_cons CC.c_Cluster (by decide) (by rfl) ixc_nil) (de_name 0)) (de_name 4)) da_nil)))))
    (dss_one (ds_expr (de_app c (de_name 3) (de_add c de_str (de_join c de_str (de_comp (own := [("number", 6)]) c (di_seq c (de_name 5)) (blkOk_by (N := ["cluster", "wishes", "placing", "lines", "store", "told", "number", "piece", "wish"]) (sc := defScope s_write_world) (by decide +kernel)) (by decide) (fun _ _ _ _ _ => (dg_nm 6 (Ctx.blk c).hN)) (fun _ _ _ _ _ => pts_nil') (fun _ _ _ _ _ => (de_callTy (x := "str") call_str_int o_str rfl T.b_str (by decide +kernel) (da_cons (de_name 6) da_nil)))))))))))))
    (dss_cons (ds_gc [false, false, false, true, false, false, false, false, false] (ds_for c (di_enum c rfl T.b_enumerate (da_cons (de_name 1) da_nil)) (dg_tp c.hc c.hK (dgs_cons (dg_nm 7 c.hN) (dgs_cons (dg_nm 8 c.hN) dgs_nil))) (dss_gc [false, false, true, true, false, false, false, false, false] (dss_one (ds_expr (de_app c (de_name 3) (de_add c (de_add c (de_add c de_str (de_callTy (x := "str") call_str_int o_str rfl T.b_str (by decide +kernel) (da_cons (de_name 8) da_nil))) de_str) (de_callH c h_lot_text (da_cons (de_ix c (de_name 2) (de_name 7)) da_nil)))))))))
    (dss_one (ds_ret (de_join c de_str (de_name 3)))))))
theorem ok__numbers {P' : Program} {w : World} {G : Gd} {mg : Str → Option Value} {base : Heap} (T : Tops mg) (D : DefAt G.K mg "_numbers" s__numbers ["line", "first", "bounds"])
    (CC : Cs G mg)
    (h_integer_told : HasFn P' w G mg base "integer_told" s_integer_told ["word"] 1 (spP G 1 F_integer_told_7ae3)) :
    HasFn P' w G mg base "_numbers" s__numbers ["line", "first", "bounds"] 2 (spP G 3 F__numbers_6b34) :=
  hasP (k := 1) D sc__numbers fun f cdv A outer sh H E c =>
    (dss_cons (ds_set 3 c.hN (de_split (de_name 0) de_str))
    (dss_cons (ds_if (dt_w (dw_or (dt_cmp (cd_ne c) (de_ix c (de_name 3) de_int) (de_name 1)) (dw_or1 (dt_cmp (cd_ne c) (de_callB (x := "len") (cr_len c) o_len rfl T.b_len (by decide +kernel) (da_cons (de_name 3) da_nil)) (de_add c (de_callB (x := "len") (cr_len c) o_len rfl T.b_len (by decide +kernel) (da_cons (de_name 2) da_nil)) de_int))))) (dss_one (ds_ret de_non)) dss_nil)
    (dss_cons (ds_setComp 4 (own := [("word", 5)]) c rfl rfl (sw_true rfl rfl rfl (by decide +kernel)) (di_seq c (de_slice c (de_name 3) (dpo_some de_int) dpo_none)) (blkOk_by (N := ["line", "first", "bounds", "words", "numbers", "word", "number", "least", "most"]) (sc := defScope s__numbers) (by decide +kernel)) (by decide) (fun _ _ _ _ _ => (dg_nm 5 (Ctx.blk c).hN)) (fun _ _ _ _ _ => pts_nil') (fun _ _ _ _ _ => (de_callH (Ctx.blk c) h_integer_told (da_cons (de_name 5) da_nil))))
    (dss_cons (ds_gc [false, false, false, false, true, false, false, false, false] (ds_for c (di_zip c rfl T.b_zip (da_cons (de_name 4) (da_cons (de_name 2) da_nil))) (dg_tp c.hc c.hK (dgs_cons (dg_nm 6 c.hN) (dgs_cons (dg_tp c.hc c.hK (dgs_cons (dg_nm 7 c.hN) (dgs_cons (dg_nm 8 c.hN) dgs_nil))) dgs_nil))) (dss_gc [false, false, false, false, true, false, false, false, false] (dss_one (ds_if (dt_not (dt_chain cd_le cd_le (de_name 7) (de_name 6) (de_name 8))) (dss_one (ds_ret de_non)) dss_nil)))))
    (dss_one (ds_ret (de_name 4)))))))
theorem ok__piece {P' : Program} {w : World} {G : Gd} {mg : Str → Option Value} {base : Heap} (T : Tops mg) (D : DefAt G.K mg "_piece" s__piece ["line", "store_count"])
    (CC : Cs G mg)
    (h_integer_told : HasFn P' w G mg base "integer_told" s_integer_told ["word"] 1 (spP G 1 F_integer_told_7ae3))
    (h_lot_told : HasFn P' w G mg base "lot_told" s_lot_told ["word", "store_count"] 2 (spP G 2 F_lot_told_47c5)) :
    HasFn P' w G mg base "_piece" s__piece ["line", "store_count"] 3 (spP G 2 F__piece_8db6) :=
  hasP (k := 2) D sc__piece fun f cdv A outer sh H E c =>
    (dss_cons (ds_set 2 c.hN (de_split (de_name 0) de_str))
    (dss_cons (ds_if (dt_w (dw_or (dt_cmp (cd_ne c) (de_ix c (de_name 2) de_int) de_str) (dw_or1 (dt_cmp (cd_ne c) (de_callB (x := "len") (cr_len c) o_len rfl T.b_len (by decide +kernel) (da_cons (de_name 2) da_nil)) de_int)))) (dss_one (ds_ret de_non)) dss_nil)
    (dss_cons (ds_set 3 c.hN (de_callH c h_integer_told (da_cons (de_ix c (de_name 2) de_int) da_nil)))
    (dss_cons (ds_set 4 c.hN (de_callH c h_lot_told (da_cons (de_ix c (de_name 2) de_int) (da_cons (de_name 1) da_nil))))
    (dss_cons (ds_if (dt_w (dw_or (dt_not (dt_chain cd_le cd_le de_int (de_name 3) (de_gintE T.g_MOST_WISH))) (dw_or1 (dt_cmp cd_is (de_name 4) de_non)))) (dss_one (ds_ret de_non)) dss_nil)
    (dss_one (ds_ret (de_tup (da_cons (de_name 3) (da_cons (de_name 4) da_nil))))))))))
theorem ok__law_draws {P' : Program} {w : World} {G : Gd} {mg : Str → Option Value} {base : Heap} (T : Tops mg) (D : DefAt G.K mg "_law_draws" s__law_draws ["_law_script", "_law_many"])
    (CC : Cs G mg) :
    HasFn P' w G mg base "_law_draws" s__law_draws ["_law_script", "_law_many"] 1 (spP G 2 F__law_draws_f854) :=
  hasP (k := 0) D sc__law_draws fun f cdv A outer sh H E c =>
    (dss_cons (ds_setCompO 2 (own := [("_law_cell", 3)]) c rfl rfl (sw_true rfl rfl rfl (by decide +kernel)) (di_seq c (de_name 0)) (blkOk_by (N := ["_law_script", "_law_many", "_law_rests", "_law_cell", "_law_draws_here", "_law_k", "_law_at", "_law_mixed"]) (sc := defScope s__law_draws) (by decide +kernel)) (by decide) (fun _ _ _ _ _ => (dg_nm 3 (Ctx.blk c).hN)) (fun _ _ _ _ _ => pts_nil') (fun _ _ _ _ _ => (de_callB (x := "abs") call_abs o_abs rfl T.b_abs (by decide +kernel) (da_cons (de_callTy (x := "int") call_int1 o_int rfl T.b_int (by decide +kernel) (da_cons (de_name 3) da_nil)) da_nil))))
    (dss_cons (ds_set 4 c.hN (de_ls da_nil))
    (dss_cons (ds_gc [false, false, false, false, true, false, false, false] (ds_for c (di_range1 rfl T.b_range (da_cons (de_name 1) da_nil)) (dg_nm 5 c.hN) (dss_gc [true, false, true, false, true, false, false, false] (dss_cons (ds_set 3 c.hN (de_name 5))
    (dss_cons (ds_if (dt_cmp cd_gt (de_callB (x := "len") (cr_len c) o_len rfl T.b_len (by decide +kernel) (da_cons (de_name 0) da_nil)) de_int) (dss_cons (ds_set 6 c.hN (de_mod (de_name 5) (de_callB (x := "len") (cr_len c) o_len rfl T.b_len (by decide +kernel) (da_cons (de_name 0) da_nil))))
    (dss_cons (ds_set 3 c.hN (de_callTy (x := "int") call_int1 o_int rfl T.b_int (by decide +kernel) (da_cons (de_ix c (de_name 0) (de_name 6)) da_nil)))
    (dss_one (ds_if (dt_w (dw_and (dt_cmp cd_ge (de_name 3) (de_pow de_int de_int)) (dw_and1 (dt_cmp cd_gt (de_ix c (de_name 2) (de_name 6)) de_int)))) (dss_cons (ds_expr (de_app c (de_name 4) (de_mod (de_callTy (x := "int") call_int1 o_int rfl T.b_int (by decide +kernel) (da_cons (de_ix c (de_name 2) (de_name 6)) da_nil)) de_int)))
    (dss_cons (ds_sto (de_fdiv (de_callTy (x := "int") call_int1 o_int rfl T.b_int (by decide +kernel) (da_cons (de_ix c (de_name 2) (de_name 6)) da_nil)) de_int) (de_name 2) (de_name 6))
    (dss_one ds_cnt))) dss_nil)))) dss_nil)
    (dss_cons (ds_set 7 c.hN (de_mod (de_callTy (x := "int") call_int1 o_int rfl T.b_int (by decide +kernel) (da_cons (de_add c (de_add c (de_mul (de_name 3) de_int) (de_mul (de_name 5) de_int)) de_int) da_nil)) de_int))
    (dss_cons (ds_set 7 c.hN (de_mod (de_callTy (x := "int") call_int1 o_int rfl T.b_int (by decide +kernel) (da_cons (de_add c (de_fdiv (de_mul (de_name 7) (de_name 7)) de_int) (de_name 7)) da_nil)) de_int))
    (dss_one (ds_expr (de_app c (de_name 4) (de_mod (de_callTy (x := "int") call_int1 o_int rfl T.b_int (by decide +kernel) (da_cons (de_add c (de_fdiv (de_mul (de_name 7) (de_name 7)) de_int) (de_mul (de_name 5) de_int)) da_nil)) de_int)))))))))))
    (dss_one (ds_ret (de_name 4))))))
theorem ok__law_take {P' : Program} {w : World} {G : Gd} {mg : Str → Option Value} {base : Heap} (T : Tops mg) (D : DefAt G.K mg "_law_take" s__law_take ["_law_hand", "_law_many"])
    (CC : Cs G mg) :
    HasFn P' w G mg base "_law_take" s__law_take ["_law_hand", "_law_many"] 1 (spS G 2 F__law_take_e5cf) :=
  hasS (k := 0) D sc__law_take fun f cdv A outer sh H E c =>
    (dss_cons (ds_set 2 c.hN (de_ix c (de_name 0) de_int))
    (dss_cons (ds_sto (de_add c (de_name 2) de_int) (de_name 0) de_int)
    (dss_cons (ds_set 3 c.hN (de_ix c (de_name 0) de_int))
    (dss_cons (ds_if (dt_cmp cd_ge (de_name 2) (de_callB (x := "len") (cr_len c) o_len rfl T.b_len (by decide +kernel) (da_cons (de_name 3) da_nil))) (dss_one (ds_ret de_int)) dss_nil)
    (dss_one (ds_ret (de_mod (de_fdiv (de_callTy (x := "int") call_int1 o_int rfl T.b_int (by decide +kernel) (da_cons (de_ix c (de_name 3) (de_name 2)) da_nil)) de_int) (de_name 1))))))))
theorem ok__law_like {P' : Program} {w : World} {G : Gd} {mg : Str → Option Value} {base : Heap} (T : Tops mg) (D : DefAt G.K mg "_law_like" s__law_like ["_law_found", "_law_due"])
    (CC : Cs G mg) :
    ∀ m : Nat, HasFn P' w G mg base "_law_like" s__law_like ["_law_found", "_law_due"] (1 + m) (spP G 2 (F__law_like_534a m))
  | 0 => hasBad D 2
  | m + 1 => by
    have h__law_like := ok__law_like (P' := P') (w := w) (base := base) T D CC  m
    exact hasP (k := 1 + m) D sc__law_like fun f cdv A outer sh H E c =>
    (dss_cons (ds_if (dt_w (dw_or (dt_val (de_isi c rfl T.b_isinstance rfl T.b_tuple (by decide +kernel) (de_name 1))) (dw_or1 (dt_val (de_isi c rfl T.b_isinstance rfl T.b_list (by decide +kernel) (de_name 1)))))) (dss_cons (ds_if (dt_w (dw_or (dt_cmp (cd_ne c) (de_isi c rfl T.b_isinstance rfl T.b_tuple (by decide +kernel) (de_name 0)) (de_isi c rfl T.b_isinstance rfl T.b_tuple (by decide +kernel) (de_name 1))) (dw_or1 (dt_cmp (cd_ne c) (de_isi c rfl T.b_isinstance rfl T.b_list (by decide +kernel) (de_name 0)) (de_isi c rfl T.b_isinstance rfl T.b_list (by decide +kernel) (de_name 1)))))) (dss_one (ds_ret de_bl)) dss_nil)
    (dss_cons (ds_if (dt_cmp (cd_ne c) (de_callB (x := "len") (cr_len c) o_len rfl T.b_len (by decide +kernel) (da_cons (de_name 0) da_nil)) (de_callB (x := "len") (cr_len c) o_len rfl T.b_len (by decide +kernel) (da_cons (de_name 1) da_nil))) (dss_one (ds_ret de_bl)) dss_nil)
    (dss_cons (ds_gc [false, false, false] (ds_for c (di_range1 rfl T.b_range (da_cons (de_callB (x := "len") (cr_len c) o_len rfl T.b_len (by decide +kernel) (da_cons (de_name 1) da_nil)) da_nil)) (dg_nm 2 c.hN) (dss_gc [true, true, false] (dss_one (ds_if (dt_not (dt_val (de_callH c h__law_like (da_cons (de_ix c (de_name 0) (de_name 2)) (da_cons (de_ix c (de_name 1) (de_name 2)) da_nil)) (hj := by omega)))) (dss_one (ds_ret de_bl)) dss_nil)))))
    (dss_one (ds_ret de_bl))))) dss_nil)
    (dss_cons (ds_if (dt_cmp cd_is (de_name 1) de_non) (dss_one (ds_ret (de_cmpD cd_is (de_name 0) de_non))) dss_nil)
    (dss_cons (ds_if (dt_w (dw_or (dt_val (de_isi c rfl T.b_isinstance rfl T.b_bool (by decide +kernel) (de_name 1))) (dw_or1 (dt_val (de_isi c rfl T.b_isinstance rfl T.b_bool (by decide +kernel) (de_name 0)))))) (dss_one (ds_ret (de_and (de_isi c rfl T.b_isinstance rfl T.b_bool (by decide +kernel) (de_name 1)) (de_and (de_isi c rfl T.b_isinstance rfl T.b_bool (by decide +kernel) (de_name 0)) (de_b1 (de_cmpD (cd_eq c) (de_name 0) (de_name 1))))))) dss_nil)
    (dss_cons (ds_if (dt_val (de_isi c rfl T.b_isinstance rfl T.b_str (by decide +kernel) (de_name 1))) (dss_one (ds_ret (de_and (de_isi c rfl T.b_isinstance rfl T.b_str (by decide +kernel) (de_name 0)) (de_b1 (de_cmpD (cd_eq c) (de_name 0) (de_name 1)))))) dss_nil)
    (dss_one (ds_ret (de_and (de_isi c rfl T.b_isinstance rfl T.b_int (by decide +kernel) (de_name 0)) (de_b1 (de_cmpD (cd_eq c) (de_name 0) (de_name 1))))))))))
theorem ok__law_cluster {P' : Program} {w : World} {G : Gd} {mg : Str → Option Value} {base : Heap} (T : Tops mg) (D : DefAt G.K mg "_law_cluster" s__law_cluster ["_law_hand", "_law_most"])
    (CC : Cs G mg)
    (h__law_take : HasFn P' w G mg base "_law_take" s__law_take ["_law_hand", "_law_many"] 1 (spS G 2 F__law_take_e5cf)) :
    HasFn P' w G mg base "_law_cluster" s__law_cluster ["_law_hand", "_law_most"] 2 (spS G 2 F__law_cluster_0997) :=
  hasS (k := 1) D sc__law_cluster fun f cdv A outer sh H E c =>
    (dss_cons (ds_set 2 c.hN (de_add c de_int (de_callHL c h__law_take (da_cons (de_name 0) (da_cons (de_name 1) da_nil)))))
    (dss_cons (ds_set 3 c.hN (de_callTy (x := "tuple") (cr_tuple c) o_tuple rfl T.b_tuple (by decide +kernel) (da_cons (de_comp (own := [("_law_v", 4)]) c (di_range1 rfl T.b_range (da_cons (de_name 2) da_nil)) (blkOk_by (N := ["_law_hand", "_law_most", "_law_many", "_law_racks", "_law_v", "_law_rooms"]) (sc := defScope s__law_cluster) (by decide +kernel)) (by decide) (fun _ _ _ _ _ => (dg_nm 4 (Ctx.blk c).hN)) (fun _ _ _ _ _ => pts_nil') (fun _ _ _ _ _ => (de_ix (Ctx.blk c) (de_fl (da_cons de_int (da_cons de_int (da_cons de_int (da_cons de_int (da_cons de_int (da_cons de_int da_nil))))))) (de_callHL (Ctx.blk c) h__law_take (da_cons (de_name 0) (da_cons de_int da_nil)))))) da_nil)))
    (dss_cons (ds_set 5 c.hN (de_callTy (x := "tuple") (cr_tuple c) o_tuple rfl T.b_tuple (by decide +kernel) (da_cons (de_comp (own := [("_law_v", 4)]) c (di_range1 rfl T.b_range (da_cons (de_name 2) da_nil)) (blkOk_by (N := ["_law_hand", "_law_most", "_law_many", "_law_racks", "_law_v", "_law_rooms"]) (sc := defScope s__law_cluster) (by decide +kernel)) (by decide) (fun _ _ _ _ _ => (dg_nm 4 (Ctx.blk c).hN)) (fun _ _ _ _ _ => pts_nil') (fun _ _ _ _ _ => (de_ix (Ctx.blk c) (de_fl (da_cons de_int (da_cons de_int (da_cons de_int (da_cons de_int (da_cons de_int (da_cons de_int (da_cons de_int (da_cons de_int da_nil))))))))) (de_callHL (Ctx.blk c) h__law_take (da_cons (de_name 0) (da_cons de_int da_nil)))))) da_nil)))
    (dss_one (ds_ret (de_tup (da_cons (de_name 3) (da_cons (de_name 5) (da_cons (de_callTy (x := "tuple") (cr_tuple c) o_tuple rfl T.b_tuple (by decide +kernel) (da_cons (de_comp (own := [("_law_v", 4)]) c (di_range1 rfl T.b_range (da_cons (de_name 2) da_nil)) (blkOk_by (N := ["_law_hand", "_law_most", "_law_many", "_law_racks", "_law_v", "_law_rooms"]) (sc := defScope s__law_cluster) (by decide +kernel)) (by decide) (fun _ _ _ _ _ => (dg_nm 4 (Ctx.blk c).hN)) (fun _ _ _ _ _ => pts_nil') (fun _ _ _ _ _ => (de_add (Ctx.blk c) de_int (de_callHL (Ctx.blk c) h__law_take (da_cons (de_name 0) (da_cons de_int da_nil)))))) da_nil)) da_nil)))))))))
theorem ok__law_lot {P' : Program} {w : World} {G : Gd} {mg : Str → Option Value} {base : Heap} (T : Tops mg) (D : DefAt G.K mg "_law_lot" s__law_lot ["_law_hand", "_law_many"])
    (CC : Cs G mg)
    (h__law_take : HasFn P' w G mg base "_law_take" s__law_take ["_law_hand", "_law_many"] 1 (spS G 2 F__law_take_e5cf)) :
    HasFn P' w G mg base "_law_lot" s__law_lot ["_law_hand", "_law_many"] 2 (spS G 2 F__law_lot_2987) :=
  hasS (k := 1) D sc__law_lot fun f cdv A outer sh H E c =>
    (dss_cons (ds_set 2 c.hN (de_callTy (x := "tuple") (cr_tuple c) o_tuple rfl T.b_tuple (by decide +kernel) (da_cons (de_comp (own := [("_law_v", 3)]) c (di_range1 rfl T.b_range (da_cons (de_name 1) da_nil)) (blkOk_by (N := ["_law_hand", "_law_many", "_law_found", "_law_v"]) (sc := defScope s__law_lot) (by decide +kernel)) (by decide) (fun _ _ _ _ _ => (dg_nm 3 (Ctx.blk c).hN)) (fun _ _ _ _ _ => (pts_one' (dt_cmp (cd_eq (Ctx.blk c)) (de_callHL (Ctx.blk c) h__law_take (da_cons (de_name 0) (da_cons de_int da_nil))) de_int))) (fun _ _ _ _ _ => (de_name 3))) da_nil)))
    (dss_cons (ds_if (dt_cmp (cd_eq c) (de_callB (x := "len") (cr_len c) o_len rfl T.b_len (by decide +kernel) (da_cons (de_name 2) da_nil)) de_int) (dss_one (ds_set 2 c.hN (de_tup (da_cons (de_callHL c h__law_take (da_cons (de_name 0) (da_cons (de_name 1) da_nil))) da_nil)))) dss_nil)
    (dss_one (ds_ret (de_name 2)))))
theorem ok__law_wishes {P' : Program} {w : World} {G : Gd} {mg : Str → Option Value} {base : Heap} (T : Tops mg) (D : DefAt G.K mg "_law_wishes" s__law_wishes ["_law_hand", "_law_pieces"])
    (CC : Cs G mg)
    (h__law_take : HasFn P' w G mg base "_law_take" s__law_take ["_law_hand", "_law_many"] 1 (spS G 2 F__law_take_e5cf)) :
    HasFn P' w G mg base "_law_wishes" s__law_wishes ["_law_hand", "_law_pieces"] 2 (spS G 2 F__law_wishes_139d) :=
  hasS (k := 1) D sc__law_wishes fun f cdv A outer sh H E c =>
    (dss_one (ds_ret (de_callTy (x := "tuple") (cr_tuple c) o_tuple rfl T.b_tuple (by decide +kernel) (da_cons (de_comp (own := [("_law_p", 2)]) c (di_range1 rfl T.b_range (da_cons (de_name 1) da_nil)) (blkOk_by (N := ["_law_hand", "_law_pieces", "_law_p"]) (sc := defScope s__law_wishes) (by decide +kernel)) (by decide) (fun _ _ _ _ _ => (dg_nm 2 (Ctx.blk c).hN)) (fun _ _ _ _ _ => pts_nil') (fun _ _ _ _ _ => (de_add (Ctx.blk c) de_int (de_callHL (Ctx.blk c) h__law_take (da_cons (de_name 0) (da_cons (de_ix (Ctx.blk c) (de_fl (da_cons de_int (da_cons de_int da_nil))) (de_callHL (Ctx.blk c) h__law_take (da_cons (de_name 0) (da_cons de_int da_nil)))) da_nil)))))) da_nil))))
theorem ok__law_placing {P' : Program} {w : World} {G : Gd} {mg : Str → Option Value} {base : Heap} (T : Tops mg) (D : DefAt G.K mg "_law_placing" s__law_placing ["_law_hand", "_law_many", "_law_pieces"])
    (CC : Cs G mg)
    (h__law_lot : HasFn P' w G mg base "_law_lot" s__law_lot ["_law_hand", "_law_many"] 2 (spS G 2 F__law_lot_2987)) :
    HasFn P' w G mg base "_law_placing" s__law_placing ["_law_hand", "_law_many", "_law_pieces"] 3 (spS G 3 F__law_placing_eb96) :=
  hasS (k := 2) D sc__law_placing fun f cdv A outer sh H E c =>
    (dss_one (ds_ret (de_callTy (x := "tuple") (cr_tuple c) o_tuple rfl T.b_tuple (by decide +kernel) (da_cons (de_comp (own := [("_law_p", 3)]) c (di_range1 rfl T.b_range (da_cons (de_name 2) da_nil)) (blkOk_by (N := ["_law_hand", "_law_many", "_law_pieces", "_law_p"]) (sc := defScope s__law_placing) (by decide +kernel)) (by decide) (fun _ _ _ _ _ => (dg_nm 3 (Ctx.blk c).hN)) (fun _ _ _ _ _ => pts_nil') (fun _ _ _ _ _ => (de_callHL (Ctx.blk c) h__law_lot (da_cons (de_name 0) (da_cons (de_name 1) da_nil))))) da_nil))))
theorem ok__law_lines {P' : Program} {w : World} {G : Gd} {mg : Str → Option Value} {base : Heap} (T : Tops mg) (D : DefAt G.K mg "_law_lines" s__law_lines ["_law_cluster_here", "_law_wishes_here", "_law_placing_here"])
    (CC : Cs G mg) :
    HasFn P' w G mg base "_law_lines" s__law_lines ["_law_cluster_here", "_law_wishes_here", "_law_placing_here"] 1 (spP G 3 F__law_lines_4c5b) :=
  hasP (k := 0) D sc__law_lines fun f cdv A outer sh H E c =>
    (dss_cons (ds_set 3 c.hN (de_ls (da_cons (de_add c (de_add c (de_add c de_str (de_callTy (x := "str") call_str_int o_str rfl T.b_str (by decide +kernel) (da_cons (de_callB (x := "len") (cr_len c) o_len rfl T.b_len (by decide +kernel) (da_cons (de_ix c (de_name 0) de_int) da_nil)) da_nil))) de_str) (de_callTy (x := "str") call_str_int o_str rfl T.b_str (by decide +kernel) (da_cons (de_callB (x := "len") (cr_len c) o_len rfl T.b_len (by decide +kernel) (da_cons (de_name 1) da_nil)) da_nil))) da_nil)))
    (dss_cons (ds_gc [false, true, true, true, false, false, false] (ds_for c (di_range1 rfl T.b_range (da_cons (de_callB (x := "len") (cr_len c) o_len rfl T.b_len (by decide +kernel) (da_cons (de_ix c (de_name 0) de_int) da_nil)) da_nil)) (dg_nm 4 c.hN) (dss_gc [true, true, true, true, false, false, false] (dss_one (ds_expr (de_app c (de_name 3) (de_add c de_str (de_join c de_str (de_comp (own := [("_law_row", 5)]) c (di_seq c (de_name 0)) (blkOk_by (N := ["_law_cluster_here", "_law_wishes_here", "_law_placing_here", "_law_lines_here", "_law_v", "_law_row", "_law_p"]) (sc := defScope s__law_lines) (by decide +kernel)) (by decide) (fun _ _ _ _ _ => (dg_nm 5 (Ctx.blk c).hN)) (fun _ _ _ _ _ => pts_nil') (fun _ _ _ _ _ => (de_callTy (x := "str") call_str_int o_str rfl T.b_str (by decide +kernel) (da_cons (de_ix (Ctx.blk c) (de_name 5) (de_name 4)) da_nil))))))))))))
    (dss_cons (ds_gc [false, false, false, true, false, false, false] (ds_for c (di_range1 rfl T.b_range (da_cons (de_callB (x := "len") (cr_len c) o_len rfl T.b_len (by decide +kernel) (da_cons (de_name 1) da_nil)) da_nil)) (dg_nm 6 c.hN) (dss_gc [false, true, true, true, false, false, false] (dss_one (ds_expr (de_app c (de_name 3) (de_add c (de_add c (de_add c de_str (de_callTy (x := "str") call_str_int o_str rfl T.b_str (by decide +kernel) (da_cons (de_ix c (de_name 1) (de_name 6)) da_nil))) de_str) (de_join c de_str (de_comp (own := [("_law_v", 4)]) c (di_seq c (de_ix c (de_name 2) (de_name 6))) (blkOk_by (N := ["_law_cluster_here", "_law_wishes_here", "_law_placing_here", "_law_lines_here", "_law_v", "_law_row", "_law_p"]) (sc := defScope s__law_lines) (by decide +kernel)) (by decide) (fun _ _ _ _ _ => (dg_nm 4 (Ctx.blk c).hN)) (fun _ _ _ _ _ => pts_nil') (fun _ _ _ _ _ => (de_callTy (x := "str") call_str_int o_str rfl T.b_str (by decide +kernel) (da_cons (de_name 4) da_nil))))))))))))
    (dss_one (ds_ret (de_name 3))))))
theorem ok_Cluster___init__ {P' : Program} {w : World} {G : Gd} {mg : Str → Option Value} {base : Heap} (T : Tops mg) (D : InAt G.K (G.cls 20) "Cluster.__init__" s_Cluster___init__ ["self", "racks", "rooms", "rates"])
    (XX : Xs P' w G mg base)
    (CC : Cs G mg)
    (h_is_from_to : HasFn P' w G mg base "is_from_to" s_is_from_to ["value", "least", "most"] 1 (spP G 3 F_is_from_to_bc13)) :
    HasIn P' w G mg base 20 "Cluster.__init__" s_Cluster___init__ ["self", "racks", "rooms", "rates"] 3 (spS G 4 F_Cluster___init___47d9) :=
  inS (k := 2) D sc_Cluster___init__ fun f cdv A outer sh H E c =>
    (dss_cons (ds_if (dt_w (dw_or (dt_not (dt_val (de_isi2 c rfl T.b_isinstance rfl T.b_list (by decide +kernel) rfl T.b_tuple (by decide +kernel) (de_name 1)))) (dw_or1 (dt_not (dt_chain cd_le cd_le de_int (de_callB (x := "len") (cr_len c) o_len rfl T.b_len (by decide +kernel) (da_cons (de_name 1) da_nil)) (de_gintE T.g_MOST_STORES)))))) (dss_one (ds_raiseG c XX.x_InvalidCluster (da_cons de_str (da_cons de_int da_nil)))) dss_nil)
    (dss_cons (ds_gc [true, true, true, true, false, false, false, false] (ds_for c (di_enum c rfl T.b_enumerate (da_cons (de_name 1) da_nil)) (dg_tp c.hc c.hK (dgs_cons (dg_nm 4 c.hN) (dgs_cons (dg_nm 5 c.hN) dgs_nil))) (dss_gc [true, true, true, true, false, false, false, false] (dss_one (ds_if (dt_not (dt_val (de_callH c h_is_from_to (da_cons (de_name 5) (da_cons de_int (da_cons (de_gintE T.g_MOST_NUMBER) da_nil)))))) (dss_one (ds_raiseG c XX.x_InvalidCluster (da_cons de_str (da_cons (de_name 4) da_nil)))) dss_nil)))))
    (dss_cons (ds_if (dt_w (dw_or (dt_not (dt_val (de_isi2 c rfl T.b_isinstance rfl T.b_list (by decide +kernel) rfl T.b_tuple (by decide +kernel) (de_name 2)))) (dw_or1 (dt_cmp (cd_ne c) (de_callB (x := "len") (cr_len c) o_len rfl T.b_len (by decide +kernel) (da_cons (de_name 2) da_nil)) (de_callB (x := "len") (cr_len c) o_len rfl T.b_len (by decide +kernel) (da_cons (de_name 1) da_nil)))))) (dss_one (ds_raiseG c XX.x_InvalidCluster (da_cons de_str (da_cons de_int da_nil)))) dss_nil)
    (dss_cons (ds_gc [true, true, true, true, false, false, false, false] (ds_for c (di_enum c rfl T.b_enumerate (da_cons (de_name 2) da_nil)) (dg_tp c.hc c.hK (dgs_cons (dg_nm 4 c.hN) (dgs_cons (dg_nm 6 c.hN) dgs_nil))) (dss_gc [true, true, true, true, false, false, false, false] (dss_one (ds_if (dt_not (dt_val (de_callH c h_is_from_to (da_cons (de_name 6) (da_cons de_int (da_cons (de_gintE T.g_MOST_NUMBER) da_nil)))))) (dss_one (ds_raiseG c XX.x_InvalidCluster (da_cons de_str (da_cons (de_name 4) da_nil)))) dss_nil)))))
    (dss_cons (ds_if (dt_w (dw_or (dt_not (dt_val (de_isi2 c rfl T.b_isinstance rfl T.b_list (by decide +kernel) rfl T.b_tuple (by decide +kernel) (de_name 3)))) (dw_or1 (dt_cmp (cd_ne c) (de_callB (x := "len") (cr_len c) o_len rfl T.b_len (by decide +kernel) (da_cons (de_name 3) da_nil)) (de_callB (x := "len") (cr_len c) o_len rfl T.b_len (by decide +kernel) (da_cons (de_name 1) da_nil)))))) (dss_one (ds_raiseG c XX.x_InvalidCluster (da_cons de_str (da_cons de_int da_nil)))) dss_nil)
    (dss_cons (ds_gc [true, true, true, true, false, false, false, false] (ds_for c (di_enum c rfl T.b_enumerate (da_cons (de_name 3) da_nil)) (dg_tp c.hc c.hK (dgs_cons (dg_nm 4 c.hN) (dgs_cons (dg_nm 7 c.hN) dgs_nil))) (dss_gc [true, true, true, true, false, false, false, false] (dss_one (ds_if (dt_not (dt_val (de_callH c h_is_from_to (da_cons (de_name 7) (da_cons de_int (da_cons (de_gintE T.g_MOST_RATE) da_nil)))))) (dss_one (ds_raiseG c XX.x_InvalidCluster (da_cons de_str (da_cons (de_name 4) da_nil)))) dss_nil)))))
    (dss_cons (ds_att c (oc_one CC.c_Cluster (by decide)) (de_name 0) (de_callTy (x := "tuple") (cr_tuple c) o_tuple rfl T.b_tuple (by decide +kernel) (da_cons (de_name 1) da_nil)))
    (dss_cons (ds_att c (oc_one CC.c_Cluster (by decide)) (de_name 0) (de_callTy (x := "tuple") (cr_tuple c) o_tuple rfl T.b_tuple (by decide +kernel) (da_cons (de_name 2) da_nil)))
    (dss_cons (ds_att c (oc_one CC.c_Cluster (by decide)) (de_name 0) (de_callTy (x := "tuple") (cr_tuple c) o_tuple rfl T.b_tuple (by decide +kernel) (da_cons (de_name 3) da_nil)))
    (dss_one (ds_att c (oc_one CC.c_Cluster (by decide)) (de_name 0) (de_callB (x := "len") (cr_len c) o_len rfl T.b_len (by decide +kernel) (da_cons (de_name 1) da_nil)))))))))))))
theorem ok_read_world {P' : Program} {w : World} {G : Gd} {mg : Str → Option Value} {base : Heap} (T : Tops mg) (D : DefAt G.K mg "read_world" s_read_world ["text"])
    (XX : Xs P' w G mg base)
    (CC : Cs G mg)
    (h_begins : HasFn P' w G mg base "begins" s_begins ["lines"] 1 (spP G 1 F_begins_a4ac))
    (h__numbers : HasFn P' w G mg base "_numbers" s__numbers ["line", "first", "bounds"] 2 (spP G 3 F__numbers_6b34))
    (h__piece : HasFn P' w G mg base "_piece" s__piece ["line", "store_count"] 3 (spP G 2 F__piece_8db6))
    (h_Cluster___init__ : HasIn P' w G mg base 20 "Cluster.__init__" s_Cluster___init__ ["self", "racks", "rooms", "rates"] 3 (spS G 4 F_Cluster___init___47d9)) :
    HasFn P' w G mg base "read_world" s_read_world ["text"] 5 (spP G 1 F_read_world_b56d) :=
  hasP (k := 4) D sc_read_world fun f cdv A outer sh H E c =>
    (dss_cons (ds_set 1 c.hN (de_split (de_name 0) de_str))
    (dss_cons (ds_set 2 c.hN (de_callH c h_begins (da_cons (de_name 1) da_nil)))
    (dss_cons (ds_set 3 c.hN (de_callH c h__numbers (da_cons (de_ix c (de_name 1) de_int) (da_cons de_str (da_cons (de_fl (da_cons (de_tup (da_cons de_int (da_cons (de_gintE T.g_MOST_STORES) da_nil))) (da_cons (de_tup (da_cons de_int (da_cons (de_gintE T.g_MOST_PIECES) da_nil))) da_nil))) da_nil)))))
    (dss_cons (ds_if (dt_cmp cd_is (de_name 3) de_non) (dss_one (ds_raiseG c XX.x_InvalidText (da_cons (de_name 0) (da_cons de_int da_nil)))) dss_nil)
    (dss_cons (ds_asgL (de_name 3) (dg_lst c.hc c.hK (dgs_cons (dg_nm 4 c.hN) (dgs_cons (dg_nm 5 c.hN) dgs_nil))))
    (dss_cons (ds_set 6 c.hN (de_ls da_nil))
    (dss_cons (ds_set 7 c.hN (de_ls da_nil))
    (dss_cons (ds_set 8 c.hN (de_ls da_nil))
    (dss_cons (ds_gc [true, true, false, false, true, true, true, true, true, false, false, false, false, false] (ds_for c (di_range2 rfl T.b_range (da_cons de_int (da_cons (de_callB (x := "len") (cr_len c) o_len rfl T.b_len (by decide +kernel) (da_cons (de_name 1) da_nil)) da_nil))) (dg_nm 9 c.hN) (dss_gc [true, true, true, false, true, true, true, true, true, false, false, false, false, false] (dss_one (ds_if (dt_cmp cd_le (de_name 9) (de_name 4)) (dss_cons (ds_set 10 c.hN (de_callH c h__numbers (da_cons (de_ix c (de_name 1) (de_name 9)) (da_cons de_str (da_cons (de_fl (da_cons (de_tup (da_cons de_int (da_cons (de_gintE T.g_MOST_NUMBER) da_nil))) (da_cons (de_tup (da_cons de_int (da_cons (de_gintE T.g_MOST_NUMBER) da_nil))) (da_cons (de_tup (da_cons de_int (da_cons (de_gintE T.g_MOST_RATE) da_nil))) da_nil)))) da_nil)))))
    (dss_cons (ds_if (dt_cmp cd_is (de_name 10) de_non) (dss_one (ds_raiseG c XX.x_InvalidText (da_cons (de_name 0) (da_cons (de_ix c (de_name 2) (de_name 9)) da_nil)))) dss_nil)
    (dss_one (ds_expr (de_app c (de_name 6) (de_name 10)))))) (dss_cons (ds_set 11 c.hN (de_callH c h__piece (da_cons (de_ix c (de_name 1) (de_name 9)) (da_cons (de_name 4) da_nil))))
    (dss_cons (ds_if (dt_w (dw_or (dt_cmp cd_gt (de_name 9) (de_add c (de_name 4) (de_name 5))) (dw_or1 (dt_cmp cd_is (de_name 11) de_non)))) (dss_one (ds_raiseG c XX.x_InvalidText (da_cons (de_name 0) (da_cons (de_ix c (de_name 2) (de_name 9)) da_nil)))) dss_nil)
    (dss_cons (ds_expr (de_app c (de_name 7) (de_ix c (de_name 11) de_int)))
    (dss_one (ds_expr (de_app c (de_name 8) (de_ix c (de_name 11) de_int))))))))))))
    (dss_cons (ds_if (dt_cmp cd_le (de_callB (x := "len") (cr_len c) o_len rfl T.b_len (by decide +kernel) (da_cons (de_name 1) da_nil)) (de_add c (de_name 4) (de_name 5))) (dss_one (ds_raiseG c XX.x_InvalidText (da_cons (de_name 0) (da_cons (de_callB (x := "len") (cr_len c) o_len rfl T.b_len (by decide +kernel) (da_cons (de_name 0) da_nil)) da_nil)))) dss_nil)
    (dss_cons (ds_set 12 c.hN (de_make c CC.c_Cluster h_Cluster___init__ (da_cons (de_compW (own := [("row", 13)]) c (de_name 6) (blkOk_by (N := ["text", "lines", "places", "sizes", "store_count", "many", "stores", "wishes", "placing", "k", "store", "piece", "cluster", "row"]) (sc := defScope s_read_world) (by decide +kernel)) (by decide) (fun _ _ _ _ _ => (dg_nm 13 (Ctx.blk c).hN)) (fun _ _ _ _ _ => pts_nil') (fun _ _ _ _ _ => (de_ix (Ctx.blk c) (de_name 13) de_int))) (da_cons (de_compW (own := [("row", 13)]) c (de_name 6) (blkOk_by (N := ["text", "lines", "places", "sizes", "store_count", "many", "stores", "wishes", "placing", "k", "store", "piece", "cluster", "row"]) (sc := defScope s_read_world) (by decide +kernel)) (by decide) (fun _ _ _ _ _ => (dg_nm 13 (Ctx.blk c).hN)) (fun _ _ _ _ _ => pts_nil') (fun _ _ _ _ _ => (de_ix (Ctx.blk c) (de_name 13) de_int))) (da_cons (de_compW (own := [("row", 13)]) c (de_name 6) (blkOk_by (N := ["text", "lines", "places", "sizes", "store_count", "many", "stores", "wishes", "placing", "k", "store", "piece", "cluster", "row"]) (sc := defScope s_read_world) (by decide +kernel)) (by decide) (fun _ _ _ _ _ => (dg_nm 13 (Ctx.blk c).hN)) (fun _ _ _ _ _ => pts_nil') (fun _ _ _ _ _ => (de_ix (Ctx.blk c) (de_name 13) de_int))) da_nil))) 3))
    (dss_one (ds_ret (de_tup (da_cons (de_name 12) (da_cons (de_callTy (x := "tuple") (cr_tuple c) o_tuple rfl T.b_tuple (by decide +kernel) (da_cons (de_name 7) da_nil)) (da_cons (de_callTy (x := "tuple") (cr_tuple c) o_tuple rfl T.b_tuple (by decide +kernel) (da_cons (de_name 8) da_nil)) da_nil)))))))))))))))))
theorem ok__law_world_is {P' : Program} {w : World} {G : Gd} {mg : Str → Option Value} {base : Heap} (T : Tops mg) (D : DefAt G.K mg "_law_world_is" s__law_world_is ["_law_found", "_law_cluster_here", "_law_wishes_here", "_law_placing_here"])
    (CC : Cs G mg)
    (h__law_like : HasFn P' w G mg base "_law_like" s__law_like ["_law_found", "_law_due"] 21 (spP G 2 (F__law_like_534a 20))) :
    HasFn P' w G mg base "_law_world_is" s__law_world_is ["_law_found", "_law_cluster_here", "_law_wishes_here", "_law_placing_here"] 22 (spP G 4 F__law_world_is_8de4) :=
  hasP (k := 21) D sc__law_world_is fun f cdv A outer sh H E c =>
    (dss_cons (ds_if (dt_w (dw_or (dt_not (dt_val (de_isi c rfl T.b_isinstance rfl T.b_tuple (by decide +kernel) (de_name 0)))) (dw_or (dt_cmp (cd_ne c) (de_callB (x := "len") (cr_len c) o_len rfl T.b_len (by decide +kernel) (da_cons (de_name 0) da_nil)) de_int) (dw_or1 (dt_not (dt_val (de_iso c rfl T.b_isinstance CC.c_Cluster CC.i_Cluster (de_ix c (de_name 0) de_int)))))))) (dss_one (ds_ret de_bl)) dss_nil)
    (dss_cons (ds_if (dt_not (dt_val (de_callH c h__law_like (da_cons (de_tup (da_cons (de_att (ix := ixL ((20, 0) :: [])) c (ixc_cons CC.c_Cluster (by decide) (by rfl) ixc_nil) (de_ix c (de_name 0) de_int)) (da_cons (de_att (ix := ixL ((20, 1) :: [])) c (ixc_cons CC.c_Cluster (by decide) (by rfl) ixc_nil) (de_ix c (de_name 0) de_int)) (da_cons (de_att (ix := ixL ((20, 2) :: [])) c (ixc_cons CC.c_Cluster (by decide) (by rfl) ixc_nil) (de_ix c (de_name 0) de_int)) da_nil)))) (da_cons (de_name 1) da_nil))))) (dss_one (ds_ret de_bl)) dss_nil)
    (dss_one (ds_ret (de_callH c h__law_like (da_cons (de_slice c (de_name 0) (dpo_some de_int) dpo_none) (da_cons (de_tup (da_cons (de_name 2) (da_cons (de_name 3) da_nil))) da_nil)))))))
theorem ok__law_right {P' : Program} {w : World} {G : Gd} {mg : Str → Option Value} {base : Heap} (T : Tops mg) (D : DefAt G.K mg "_law_right" s__law_right ["_law_cluster_here", "_law_wishes_here", "_law_placing_here"])
    (XX : Xs P' w G mg base)
    (CC : Cs G mg)
    (h__law_lines : HasFn P' w G mg base "_law_lines" s__law_lines ["_law_cluster_here", "_law_wishes_here", "_law_placing_here"] 1 (spP G 3 F__law_lines_4c5b))
    (h_Cluster___init__ : HasIn P' w G mg base 20 "Cluster.__init__" s_Cluster___init__ ["self", "racks", "rooms", "rates"] 3 (spS G 4 F_Cluster___init___47d9))
    (h__law_like : HasFn P' w G mg base "_law_like" s__law_like ["_law_found", "_law_due"] 21 (spP G 2 (F__law_like_534a 20)))
    (h_write_world : HasFn P' w G mg base "write_world" s_write_world ["cluster", "wishes", "placing"] 2 (spP G 3 F_write_world_255a))
    (h__law_world_is : HasFn P' w G mg base "_law_world_is" s__law_world_is ["_law_found", "_law_cluster_here", "_law_wishes_here", "_law_placing_here"] 22 (spP G 4 F__law_world_is_8de4))
    (h_read_world : HasFn P' w G mg base "read_world" s_read_world ["text"] 5 (spP G 1 F_read_world_b56d)) :
    HasFn P' w G mg base "_law_right" s__law_right ["_law_cluster_here", "_law_wishes_here", "_law_placing_here"] 23 (spP G 3 F__law_right_9b4e) :=
  hasP (k := 22) D sc__law_right fun f cdv A outer sh H E c =>
    (dss_cons (ds_set 3 c.hN (de_join c de_str (de_callH c h__law_lines (da_cons (de_name 0) (da_cons (de_name 1) (da_cons (de_name 2) da_nil))))))
    (dss_cons (ds_set 4 c.hN (de_make c CC.c_Cluster h_Cluster___init__ (da_cons (de_ix c (de_name 0) de_int) (da_cons (de_ix c (de_name 0) de_int) (da_cons (de_ix c (de_name 0) de_int) da_nil))) 3))
    (dss_one (ds_ret (de_and (de_callH c h__law_like (da_cons (de_callH c h_write_world (da_cons (de_name 4) (da_cons (de_name 1) (da_cons (de_name 2) da_nil)))) (da_cons (de_name 3) da_nil))) (de_b1 (de_callH c h__law_world_is (da_cons (de_callH c h_read_world (da_cons (de_name 3) da_nil)) (da_cons (de_name 0) (da_cons (de_name 1) (da_cons (de_name 2) da_nil)))))))))))
theorem ok_law {P' : Program} {w : World} {G : Gd} {mg : Str → Option Value} {base : Heap} (T : Tops mg) (D : DefAt G.K mg "law" s_law ["_law_script"])
    (XX : Xs P' w G mg base)
    (CC : Cs G mg)
    (h__law_draws : HasFn P' w G mg base "_law_draws" s__law_draws ["_law_script", "_law_many"] 1 (spP G 2 F__law_draws_f854))
    (h__law_cluster : HasFn P' w G mg base "_law_cluster" s__law_cluster ["_law_hand", "_law_most"] 2 (spS G 2 F__law_cluster_0997))
    (h__law_take : HasFn P' w G mg base "_law_take" s__law_take ["_law_hand", "_law_many"] 1 (spS G 2 F__law_take_e5cf))
    (h__law_wishes : HasFn P' w G mg base "_law_wishes" s__law_wishes ["_law_hand", "_law_pieces"] 2 (spS G 2 F__law_wishes_139d))
    (h__law_placing : HasFn P' w G mg base "_law_placing" s__law_placing ["_law_hand", "_law_many", "_law_pieces"] 3 (spS G 3 F__law_placing_eb96))
    (h__law_right : HasFn P' w G mg base "_law_right" s__law_right ["_law_cluster_here", "_law_wishes_here", "_law_placing_here"] 23 (spP G 3 F__law_right_9b4e)) :
    HasFn P' w G mg base "law" s_law ["_law_script"] 24 (spP G 1 F_law_7a00) :=
  hasP (k := 23) D sc_law fun f cdv A outer sh H E c =>
    (dss_cons (ds_set 1 c.hN (de_ls (da_cons (de_callH c h__law_draws (da_cons (de_name 0) (da_cons de_int da_nil))) (da_cons de_int da_nil))))
    (dss_cons (ds_set 2 c.hN (de_callHL c h__law_cluster (da_cons (de_name 1) (da_cons de_int da_nil))))
    (dss_cons (ds_set 3 c.hN (de_ix c (de_fl (da_cons (de_callHL c h__law_take (da_cons (de_name 1) (da_cons de_int da_nil))) (da_cons de_int da_nil))) (de_fdiv (de_callHL c h__law_take (da_cons (de_name 1) (da_cons de_int da_nil))) de_int)))
    (dss_cons (ds_set 4 c.hN (de_callHL c h__law_wishes (da_cons (de_name 1) (da_cons (de_name 3) da_nil))))
    (dss_cons (ds_set 5 c.hN (de_callHL c h__law_placing (da_cons (de_name 1) (da_cons (de_callB (x := "len") (cr_len c) o_len rfl T.b_len (by decide +kernel) (da_cons (de_ix c (de_name 2) de_int) da_nil)) (da_cons (de_name 3) da_nil)))))
    (dss_cons (ds_set 6 c.hN (de_callHL c h__law_cluster (da_cons (de_name 1) (da_cons de_int da_nil))))
    (dss_cons (ds_set 7 c.hN (de_callHL c h__law_wishes (da_cons (de_name 1) (da_cons de_int da_nil))))
    (dss_cons (ds_if (dt_w (dw_or (dt_not (dt_val (de_callH c h__law_right (da_cons (de_name 2) (da_cons (de_name 4) (da_cons (de_name 5) da_nil)))))) (dw_or1 (dt_not (dt_val (de_callH c h__law_right (da_cons (de_name 6) (da_cons (de_name 7) (da_cons (de_callHL c h__law_placing (da_cons (de_name 1) (da_cons (de_callB (x := "len") (cr_len c) o_len rfl T.b_len (by decide +kernel) (da_cons (de_ix c (de_name 6) de_int) da_nil)) (da_cons de_int da_nil)))) da_nil))))))))) (dss_one (ds_ret de_bl)) dss_nil)
    (dss_one (ds_ret (de_callH c h__law_right (da_cons (de_name 2) (da_cons (de_name 4) (da_cons (de_name 5) da_nil))))))))))))))
theorem all_has {P' : Program} {w : World} {G : Gd} {mg : Str → Option Value} {base : Heap} (T : Tops mg) (XX : Xs P' w G mg base) (CC : Cs G mg)
    (D_is_from_to : DefAt G.K mg "is_from_to" s_is_from_to ["value", "least", "most"])
    (D_integer_told : DefAt G.K mg "integer_told" s_integer_told ["word"])
    (D_lot_told : DefAt G.K mg "lot_told" s_lot_told ["word", "store_count"])
    (D_lot_text : DefAt G.K mg "lot_text" s_lot_text ["lot"])
    (D_begins : DefAt G.K mg "begins" s_begins ["lines"])
    (D_write_world : DefAt G.K mg "write_world" s_write_world ["cluster", "wishes", "placing"])
    (D__numbers : DefAt G.K mg "_numbers" s__numbers ["line", "first", "bounds"])
    (D__piece : DefAt G.K mg "_piece" s__piece ["line", "store_count"])
    (D__law_draws : DefAt G.K mg "_law_draws" s__law_draws ["_law_script", "_law_many"])
    (D__law_take : DefAt G.K mg "_law_take" s__law_take ["_law_hand", "_law_many"])
    (D__law_like : DefAt G.K mg "_law_like" s__law_like ["_law_found", "_law_due"])
    (D__law_cluster : DefAt G.K mg "_law_cluster" s__law_cluster ["_law_hand", "_law_most"])
    (D__law_lot : DefAt G.K mg "_law_lot" s__law_lot ["_law_hand", "_law_many"])
    (D__law_wishes : DefAt G.K mg "_law_wishes" s__law_wishes ["_law_hand", "_law_pieces"])
    (D__law_placing : DefAt G.K mg "_law_placing" s__law_placing ["_law_hand", "_law_many", "_law_pieces"])
    (D__law_lines : DefAt G.K mg "_law_lines" s__law_lines ["_law_cluster_here", "_law_wishes_here", "_law_placing_here"])
    (D_Cluster___init__ : InAt G.K (G.cls 20) "Cluster.__init__" s_Cluster___init__ ["self", "racks", "rooms", "rates"])
    (D_read_world : DefAt G.K mg "read_world" s_read_world ["text"])
    (D__law_world_is : DefAt G.K mg "_law_world_is" s__law_world_is ["_law_found", "_law_cluster_here", "_law_wishes_here", "_law_placing_here"])
    (D__law_right : DefAt G.K mg "_law_right" s__law_right ["_law_cluster_here", "_law_wishes_here", "_law_placing_here"])
    (D_law : DefAt G.K mg "law" s_law ["_law_script"])
    : HasFn P' w G mg base "law" s_law ["_law_script"] 24 (spP G 1 F_law_7a00) := by
  have h_is_from_to := ok_is_from_to (P' := P') (w := w) (base := base) T D_is_from_to CC
  have h_integer_told := ok_integer_told (P' := P') (w := w) (base := base) T D_integer_told CC
  have h_lot_told := ok_lot_told (P' := P') (w := w) (base := base) T D_lot_told CC h_integer_told
  have h_lot_text := ok_lot_text (P' := P') (w := w) (base := base) T D_lot_text CC
  have h_begins := ok_begins (P' := P') (w := w) (base := base) T D_begins CC
  have h_write_world := ok_write_world (P' := P') (w := w) (base := base) T D_write_world CC h_lot_text
  have h__numbers := ok__numbers (P' := P') (w := w) (base := base) T D__numbers CC h_integer_told
  have h__piece := ok__piece (P' := P') (w := w) (base := base) T D__piece CC h_integer_told h_lot_told
  have h__law_draws := ok__law_draws (P' := P') (w := w) (base := base) T D__law_draws CC
  have h__law_take := ok__law_take (P' := P') (w := w) (base := base) T D__law_take CC
  have h__law_like := ok__law_like (P' := P') (w := w) (base := base) T D__law_like CC  20
  have h__law_cluster := ok__law_cluster (P' := P') (w := w) (base := base) T D__law_cluster CC h__law_take
  have h__law_lot := ok__law_lot (P' := P') (w := w) (base := base) T D__law_lot CC h__law_take
  have h__law_wishes := ok__law_wishes (P' := P') (w := w) (base := base) T D__law_wishes CC h__law_take
  have h__law_placing := ok__law_placing (P' := P') (w := w) (base := base) T D__law_placing CC h__law_lot
  have h__law_lines := ok__law_lines (P' := P') (w := w) (base := base) T D__law_lines CC
  have h_Cluster___init__ := ok_Cluster___init__ (P' := P') (w := w) (base := base) T D_Cluster___init__ XX CC h_is_from_to
  have h_read_world := ok_read_world (P' := P') (w := w) (base := base) T D_read_world XX CC h_begins h__numbers h__piece h_Cluster___init__
  have h__law_world_is := ok__law_world_is (P' := P') (w := w) (base := base) T D__law_world_is CC h__law_like
  have h__law_right := ok__law_right (P' := P') (w := w) (base := base) T D__law_right XX CC h__law_lines h_Cluster___init__ h__law_like h_write_world h__law_world_is h_read_world
  have h_law := ok_law (P' := P') (w := w) (base := base) T D_law XX CC h__law_draws h__law_cluster h__law_take h__law_wishes h__law_placing h__law_right
  exact h_law
end K05
set_option Elab.async false
set_option linter.all false
namespace U
open PySem L2 ML
end U
set_option Elab.async false
set_option linter.all false
set_option maxRecDepth 100000
set_option maxHeartbeats 1000000
namespace TX
open PySem PyProof.Rows TL
def tx (l : List Nat) : Str := ⟨l.toArray⟩
theorem tl_tx (l : List Nat) : tl (tx l) = l := rfl
theorem cps_tx (l : List Nat) : (tx l).cps.toList = l := rfl
theorem tx_len (l : List Nat) : (tx l).length = l.length := by rw [len_tl, tl_tx]
theorem tx_inj {a b : List Nat} (h : tx a = tx b) : a = b := by rw [← tl_tx a, h, tl_tx]
theorem tx_app (a b : List Nat) : tx a ++ tx b = tx (a ++ b) := ext_tl (by rw [tl_append]; rfl)
theorem lit {s : String} {l : List Nat} (h : s.toList.map Char.toNat = l) : Str.ofString s = tx l := ext_tl (by rw [tl_ofString, h]; rfl)
def cutL (c : Nat) : List Nat → List (List Nat)
  | [] => [[]]
  | a :: l => if a = c then [] :: cutL c l else (a :: (cutL c l).headD []) :: (cutL c l).tail
theorem cut_nil {c : Nat} : cutL c [] = [[]] := rfl
theorem cut_hit {c : Nat} {l : List Nat} : cutL c (c :: l) = [] :: cutL c l := if_pos rfl
theorem cut_miss {c a : Nat} {l : List Nat} (h : a ≠ c) : cutL c (a :: l) = (a :: (cutL c l).headD []) :: (cutL c l).tail := if_neg h
theorem cut_ne {c : Nat} : ∀ {l : List Nat}, cutL c l ≠ []
  | [] => List.cons_ne_nil _ _
  | a :: l => by
    by_cases h : a = c
    · rw [h, cut_hit]; exact List.cons_ne_nil _ _
    · rw [cut_miss h]; exact List.cons_ne_nil _ _
theorem cut_eta {c : Nat} {l : List Nat} : (cutL c l).headD [] :: (cutL c l).tail = cutL c l := by
  have := cut_ne (c := c) (l := l)
  cases h : cutL c l with
  | nil => exact absurd h this
  | cons a t => rfl
theorem spl_cut {c : Nat} : ∀ (l acc : List Nat), spl [c] 0 acc l = (acc ++ (cutL c l).headD []) :: (cutL c l).tail
  | [], acc => by rw [spl_nil, cut_nil]; simp
  | a :: l, acc => by
    by_cases h : a = c
    · subst h
      rw [spl_hit (by exact pre_self [a] l), cut_hit]
      show acc :: spl [a] 0 [] l = _
      rw [spl_cut l [], List.nil_append, cut_eta]
      simp
    · rw [spl_miss (pre_of_head [] l h), spl_cut l, cut_miss h]
      simp
theorem split_tx {c : Nat} {l : List Nat} (h : c < 256) : Txt.split (tx l) (tx [c]) = (cutL c l).map tx := map_tl_inj (by
  rw [split_spl _ _ (by simp [tl_tx]) (kind_ok (by simp [tx, h])), tl_tx, tl_tx, spl_cut, List.nil_append, cut_eta, List.map_map]
  exact (List.map_id' _).symm)
theorem join_tx {c : List Nat} {ws : List (List Nat)} : Txt.join (tx c) (ws.map tx) = tx (joinL c ws) := ext_tl (by
  rw [join_eq, tl_join, tl_tx, tl_tx, List.map_map]
  congr 1
  exact List.map_id' _)
theorem cut_join {c : Nat} {ws : List (List Nat)} (hn : ws ≠ []) (h : ∀ w ∈ ws, c ∉ w) : cutL c (joinL [c] ws) = ws := by
  have := spl_join (S := []) hn h
  rw [spl_cut, List.nil_append, cut_eta] at this
  exact this
theorem join_cons {c : Nat} {w : List Nat} {ws : List (List Nat)} (h : ws ≠ []) : joinL [c] (w :: ws) = w ++ c :: joinL [c] ws := by
  cases ws with
  | nil => exact absurd rfl h
  | cons a t => rfl
theorem join_cut {c : Nat} : ∀ {l : List Nat}, joinL [c] (cutL c l) = l
  | [] => rfl
  | a :: l => by
    by_cases e : a = c
    · rw [e, cut_hit, join_cons cut_ne, join_cut]; rfl
    · rw [cut_miss e]
      have ih := join_cut (c := c) (l := l)
      rw [← cut_eta (c := c) (l := l)] at ih
      cases ht : (cutL c l).tail with
      | nil =>
        rw [ht] at ih
        exact congrArg (a :: ·) ih
      | cons b t =>
        rw [ht] at ih
        exact congrArg (a :: ·) ih
theorem cut_sub {c : Nat} {l w : List Nat} (h : w ∈ cutL c l) : ∀ a ∈ w, a ∈ l := by
  have key : ∀ {ws : List (List Nat)}, w ∈ ws → ∀ a ∈ w, a ∈ joinL [c] ws := by
    intro ws
    induction ws with
    | nil => intro h; cases h
    | cons v t ih =>
      intro h a ha
      cases t with
      | nil =>
        rw [List.mem_singleton] at h
        subst h
        exact ha
      | cons b t =>
        rw [join_cons (List.cons_ne_nil _ _), List.mem_append, List.mem_cons]
        rcases List.mem_cons.mp h with rfl | h
        · exact .inl ha
        · exact .inr (.inr (ih h a ha))
  intro a ha
  have := key h a ha
  rw [join_cut] at this
  exact this
theorem join_len {c : Nat} : ∀ {ws : List (List Nat)}, ws ≠ [] → (joinL [c] ws).length + 1 = (ws.map fun w => w.length + 1).sum
  | [], h => absurd rfl h
  | [w], _ => by simp [joinL]
  | w :: v :: t, _ => by
    rw [join_cons (List.cons_ne_nil _ _), List.length_append, List.length_cons, List.map_cons, List.sum_cons, ← join_len (c := c) (List.cons_ne_nil v t)]
    omega
theorem cut_len {c : Nat} {l : List Nat} : ((cutL c l).map fun w => w.length + 1).sum = l.length + 1 := by
  rw [← join_len cut_ne, join_cut]
theorem cut_short {c : Nat} {l w : List Nat} (h : w ∈ cutL c l) : w.length ≤ l.length := by
  have key : ∀ {ws : List (List Nat)}, w ∈ ws → w.length + 1 ≤ (ws.map fun w => w.length + 1).sum := by
    intro ws
    induction ws with
    | nil => intro h; cases h
    | cons v t ih =>
      intro h
      rw [List.map_cons, List.sum_cons]
      rcases List.mem_cons.mp h with rfl | h
      · omega
      · have := ih h
        omega
  have := key h
  rw [cut_len] at this
  omega
theorem sum_ge {ws : List (List Nat)} : ws.length ≤ (ws.map fun w => w.length + 1).sum := by
  induction ws with
  | nil => simp
  | cons v t ih => rw [List.map_cons, List.sum_cons, List.length_cons]; omega
theorem cut_many {c : Nat} {l : List Nat} : (cutL c l).length ≤ l.length + 1 := by
  have := sum_ge (ws := cutL c l)
  rw [cut_len] at this
  exact this
def isFig (a : Nat) : Bool := decide (48 ≤ a) && decide (a ≤ 57)
def told : List Nat → Option Nat
  | [a] => if isFig a = true then some (a - 48) else none
  | [a, b] => if isFig a = true ∧ isFig b = true ∧ a ≠ 48 then some ((a - 48) * 10 + (b - 48)) else none
  | _ => none
theorem told_num {n : Nat} (h : n ≤ 99) : told (numL n) = some n := by
  by_cases h10 : n < 10
  · rw [numL_lt h10]
    have : isFig (48 + n) = true := by unfold isFig; simp; omega
    show (if isFig (48 + n) = true then some (48 + n - 48) else none) = _
    rw [if_pos this]
    congr 1
    omega
  · rw [numL_step (by omega), numL_lt (by omega)]
    have h1 : isFig (48 + n / 10) = true := by unfold isFig; simp; omega
    have h2 : isFig (48 + n % 10) = true := by unfold isFig; simp; omega
    show (if isFig (48 + n / 10) = true ∧ isFig (48 + n % 10) = true ∧ (48 + n / 10) ≠ 48 then some ((48 + n / 10 - 48) * 10 + (48 + n % 10 - 48)) else none) = _
    rw [if_pos ⟨h1, h2, by omega⟩]
    congr 1
    omega
theorem told_eq {w : List Nat} {n : Nat} (h : told w = some n) : w = numL n ∧ n ≤ 99 := by
  unfold told at h
  split at h
  · rename_i a
    split at h
    · rename_i ha
      cases h
      unfold isFig at ha
      simp at ha
      rw [numL_lt (by omega)]
      exact ⟨by congr 1; omega, by omega⟩
    · cases h
  · rename_i a b
    split at h
    · rename_i hab
      cases h
      obtain ⟨ha, hb, hn⟩ := hab
      unfold isFig at ha hb
      simp at ha hb
      rw [numL_step (by omega), numL_lt (by omega)]
      refine ⟨?_, by omega⟩
      have e1 : ((a - 48) * 10 + (b - 48)) / 10 = a - 48 := by omega
      have e2 : ((a - 48) * 10 + (b - 48)) % 10 = b - 48 := by omega
      rw [e1, e2]
      show [a, b] = [48 + (a - 48), 48 + (b - 48)]
      rw [show 48 + (a - 48) = a by omega, show 48 + (b - 48) = b by omega]
    · cases h
  · cases h
theorem num_txt (n : Nat) : Str.ofString (toString ((n : Nat) : Int)) = tx (numL n) := ext_tl (by rw [tl_num]; rfl)
theorem num_len {n : Nat} (h : n ≤ 99) : (numL n).length ≤ 2 := numL_len (k := 2) (by decide) (by omega)
theorem int_told {w : List Nat} {n : Nat} (h : told w = some n) : intText? (tx w) = some (n : Int) := by
  obtain ⟨rfl, hn⟩ := told_eq h
  rw [← num_txt]
  exact int_num (by have := num_len hn; omega)
end TX
set_option Elab.async false
set_option linter.all false
set_option maxRecDepth 100000
local macro_rules | `(tactic| simp_arith [$ts,*]) => `(tactic| simp only [ML.e_name, ML.e_look, ML.e_c, ML.e_ofO, ML.e_ofOn, ML.e_ofB, ML.e_ofL, ML.app1_some, ML.app2_some, ML.e_op2, ML.K2_ok, ML.K2b_ok, ML.e_op1, ML.K1_ok, ML.e_view, ML.e_viewO, ML.e_nil, ML.e_cons, ML.KC_ok, ML.KC2_ok, ML.e_asPs0, ML.e_asPs, ML.consO_some, ML.e_views0, ML.e_views, ML.consOO_some, ML.appL_some, ML.e_opA, ML.KA_ok, ML.e_opV, ML.KV_ok, ML.e_tst, ML.KT_ok, ML.e_asB, ML.e_and, ML.e_or, ML.e_not, ML.KAnd_t, ML.KAnd_f, ML.KOr_t, ML.KOr_f, ML.KNot_ok, ML.e_yes, ML.e_andV, ML.e_notV, ML.KAndV_t, ML.KAndV_f, ML.KNotV_ok, ML.e_chain, ML.KCh_ok, ML.KCh2_ok, ML.KChB_t, ML.KChB_f, ML.KCh3_ok, ML.e_isi, ML.KIsi_ok, ML.e_call, ML.KCall_ok, ML.callR_some, ML.retR_ok, ML.retR_ex, ML.e_mth, ML.KM_ok, ML.KM1_t, ML.KM2_ok, ML.mthR_some, ML.tyO_some, ML.e_own, ML.ownO_some, ML.e_isLs, ML.e_isLr, ML.e_ls, ML.KLs_ok, ML.e_set, ML.KSet_ok, ML.KSet_ex, ML.e_ret, ML.KRet_ok, ML.KRet_ex, ML.e_exp, ML.KExp_ok, ML.KExp_ex, ML.e_asg, ML.KAsg_ok, ML.e_aug, ML.e_if, ML.KIfS_t, ML.KIfS_f, ML.e_seq, ML.KSeq_nx, ML.KSeq_rt, ML.KSeq_ct, ML.KSeq_bk, ML.KSeq_ex, ML.e_pass, ML.e_cnt, ML.e_sto, ML.KSto_ok, ML.KSto2_ok, ML.KSto3_ok, ML.stoR_some, ML.e_iter, ML.KIt_ok, ML.seq_fl, ML.seq_tup, ML.appLL_some, ML.e_itA, ML.KItA_ok, ML.e_for, ML.KFor_ok, ML.forB_some, ML.forK_nx, ML.forK_ct, ML.forK_bk, ML.forK_rt, ML.e_comp, ML.cmpR_ok, ML.e_compO, ML.cmpRO_ok, ML.compB_some, ML.compT_t, ML.compT_f, ML.compE_ok, ML.cons1_ok, ML.e_tgn, ML.e_tgt, ML.e_tgs0, ML.e_tgs, ML.tgK_some, ML.e_fnP, ML.fnR_nx, ML.fnR_rt, ML.fnR_ex, ML.retP_p, ML.e_fnS, ML.fnRS_nx, ML.fnRS_rt, ML.fnRS_ex, ML.g_addI, ML.g_subI, ML.g_negI, ML.g_lt, ML.g_le, ML.g_gt, ML.g_ge, ML.g_int, ML.g_lenf, ML.g_lent, ML.g_tupf, ML.g_tupt, ML.g_isN, ML.g_ixf, ML.g_ixt, ML.g_en, ML.g_ent, ML.ar0, ML.ar1, ML.ar2, ML.ar3, ML.ar4, ML.ar5, ML.as0, ML.as1, ML.as2, ML.as3, ML.as4, ML.as5, ML.tp60_0, ML.tp60_1, ML.tp60_2, ML.tp60_3, ML.tp60_4, ML.tp60_5, ML.fl60_0, ML.fl60_1, ML.fl60_2, ML.fl60_3, ML.fl60_4, ML.ls60_0, ML.ls60_1, ML.ls60_2, ML.ls60_3, ML.look_n, ML.at0, ML.at1, ML.at2, ML.startP_eq, ML.startD_eq, ML.li_set0, ML.li_setS, ML.li_get0, ML.li_getS, ML.li_map0, ML.li_mapS, ML.li_len0, ML.li_lenS, ML.li_app0, ML.li_appS, ML.li_rep0, ML.li_repS, ML.bo_nt, ML.bo_nf, ML.de_t, ML.de_f, ML.wi0, ML.wiS, ML.stB_some, ML.After_nx, ML.After_ct, ML.After_bk, ML.After_rt, ML.After_ex, ML.stC_some, ML.stC1_t, ML.stC1_f, ML.stC2_ok, ML.Aft_ok, ML.addO_s, ML.addO_n, ML.g_pow18, ML.g_abs, Nat.zero_add, Nat.reduceAdd, true_and, ML.iL_snoc, ML.iL_set, ML.iL_len, ML.g_mod, ML.g_fdiv, ML.g_mulR, ML.g_mulL, ML.mod_small, ML.e_sto1, ML.stoK_some, ML.stoG_ls, ML.setO_some, ML.retP_self, ML.retP1_ls, Int.reduceLT, Int.reduceLE, Int.reduceNeg, Nat.reduceLT, Nat.reduceLeDiff, and_self, Int.zero_add, Nat.add_zero, ML.e_viewr', ML.is_tuple_int, ML.is_tuple_bl, ML.is_tuple_str, ML.is_tuple_tup, ML.is_tuple_fl, ML.is_tuple_non, ML.is_list_int, ML.is_list_bl, ML.is_list_str, ML.is_list_tup, ML.is_list_fl, ML.is_list_non, ML.is_int_int, ML.is_int_bl, ML.is_int_str, ML.is_int_tup, ML.is_int_fl, ML.is_int_non, ML.is_bool_int, ML.is_bool_bl, ML.is_bool_str, ML.is_bool_tup, ML.is_bool_fl, ML.is_bool_non, ML.is_str_int, ML.is_str_bl, ML.is_str_str, ML.is_str_tup, ML.is_str_fl, ML.is_str_non, ML.g_eqI, ML.g_neI, ML.g_eqB, ML.g_neB, ML.nn_int, ML.nn_bl, ML.nn_str, ML.nn_tup, ML.nn_fl, ML.nn_non, eq_self, reduceCtorEq, if_true, if_false, Int.reduceEq, ML.e_raise, ML.KRaise_ok, ML.raiseR_1, ML.raiseR_2, ML.ixL_hit, ML.part_none, ML.part_some, ML.KPart_ok, ML.partR_int, ML.e_sl, ML.KSl_ok, ML.KSl2_ok, ML.KSl3_ok, ML.cutG_tup, ML.cutG_fl, ML.nc0, ML.nc1, ML.nc2, ML.nc3, ML.nc4, ML.nc5, ML.nc6, ML.nc7, ML.nc8, ML.nc9, ML.nc10, ML.e_callL, ML.KCL_ok, ML.e_locR, ML.locI_t, ML.rf_nil, ML.rf_ref, ML.rf_p, ML.rn_nil, ML.rn_ref, ML.rn_p, ML.nd0, ML.nd1, ML.ga_nil, ML.ga_cons, ML.gk_ls, ML.gk_dc, ML.gk_dt, ML.gk_hd, ML.lk_ok, ML.lk_ex, ML.le_some, ML.pa_nil, ML.pa_ls, ML.pa_dc, ML.pa_dt, ML.pa_hd, ML.lo_p, ML.lo_ref, ML.rk_some, ML.rk_ls, ML.rk_dc, ML.rk_dt, ML.e_gc, ML.gc_nx, ML.gc_ct, ML.gc_rt, ML.gc_bk, ML.gc_ex, ML.mk_nil, ML.mk_t, ML.mk_f, ML.tp_nil, ML.tp_none, ML.tp_p, ML.tp_xv, ML.tp_ref, ML.e_cut, ML.cut_t, ML.tk_0, ML.tk_nil, ML.tk_S, ML.al_nil, ML.al_cons, ML.fo_ls, ML.fo_dc, ML.fo_dt, ML.fo_hd, ML.bo_tt, ML.mx_def, ML.fl60_5, ML.fl60_6, ML.fl60_7, ML.fl60_8, ML.fl60_9, ML.fl60_10, ML.fl60_11, ML.fl60_12, ML.tp60_6, ML.tp60_7, ML.c3t0, ML.c3t1, ML.c3t2, ML.c3d1, ML.c3d2, ML.c3d3, Int.reduceAdd, ML.asgR_some, ML.g_eqPair, ML.g_nePair, Nat.reduceBEq, Nat.reduceSub, Nat.reduceDiv, $ts,*])
namespace C
open PySem L2 ML U
section
variable {t : Tg} {tt : TM} {te : EM} {ρ0 : LEnv} {η : RH}
theorem compMap {α : Type} {l : List α} {enc : α → P} (g : α → P) (h : ∀ a ∈ l, stC tt te (tgS t (.p (enc a)) ρ0) η = .ok (some (g a)) η) : compL t tt te ρ0 (l.map enc) η = .ok (l.map g) η := by
  induction l with
  | nil => rfl
  | cons a l ih =>
    have h1 := h a List.mem_cons_self
    have h2 := ih fun b hb => h b (List.mem_cons_of_mem _ hb)
    generalize e : compL t tt te ρ0 ((a :: l).map enc) η = r
    obtain ⟨ys, η', rfl, rfl, rfl⟩ := comp_done e (fun i ys η' => η' = η ∧ ys = ((a :: l).take i).map g) ⟨rfl, by simp⟩ (by
      rintro i x ys η' hx ⟨rfl, rfl⟩
      rw [List.getElem?_map] at hx
      obtain ⟨b, hb, rfl⟩ := Option.map_eq_some_iff.mp hx
      rw [h b (List.mem_of_getElem? hb), Aft_ok]
      refine ⟨rfl, ?_⟩
      rw [List.take_succ, hb, List.map_append]
      rfl)
    rw [List.length_map, List.take_length]
theorem comp_draw {α : Type} {ds : List Int} {at' : Nat} {xs : List P} {enc : α → P} (Good : Nat → α → Prop)
    (h : ∀ i x at', xs[i]? = some x → ∃ a at2, Good i a ∧ stC tt te (tgS t (.p x) ρ0) [hand ds at'] = .ok (some (enc a)) [hand ds at2]) :
    ∃ (l : List α) (at2 : Nat), compL t tt te ρ0 xs [hand ds at'] = .ok (l.map enc) [hand ds at2] ∧ l.length = xs.length ∧ ∀ (i : Nat) a, l[i]? = some a → Good i a := by
  generalize e : compL t tt te ρ0 xs [hand ds at'] = r
  obtain ⟨ys, η', rfl, l, at2, rfl, rfl, hl, hg⟩ := comp_done e (fun i ys η' => ∃ (l : List α) (at2 : Nat), ys = l.map enc ∧ η' = [hand ds at2] ∧ l.length = i ∧ ∀ (i : Nat) a, l[i]? = some a → Good i a) ⟨[], at', rfl, rfl, rfl, fun i a g => (nomatch g)⟩ (by
    rintro i x ys η' hx ⟨l, at1, rfl, rfl, hl, hg⟩
    obtain ⟨a, at2, ga, ea⟩ := h i x at1 hx
    rw [ea, Aft_ok]
    refine ⟨l ++ [a], at2, by simp [addO], rfl, by simp [hl], fun j b hb => ?_⟩
    rcases Nat.lt_or_ge j l.length with hj | hj
    · rw [List.getElem?_append_left hj] at hb
      exact hg j b hb
    · rw [List.getElem?_append_right hj] at hb
      have : j = l.length := by
        have := (List.getElem?_eq_some_iff.mp hb).1
        simp at this
        omega
      subst this
      simp at hb
      subst hb
      rw [hl]
      exact ga)
  exact ⟨l, at2, rfl, hl, hg⟩
end
theorem takeV_bnd {ds : List Int} {at' : Nat} {m : Int} (hm : 0 < m) : 0 ≤ takeV ds at' m ∧ takeV ds at' m < m := by
  unfold takeV
  cases ds[at']? with
  | none => exact ⟨Int.le_refl 0, hm⟩
  | some d => exact ⟨Int.emod_nonneg _ (by omega), Int.emod_lt_of_pos _ hm⟩
theorem take_run0 {ds : List Int} {at' : Nat} {m : Int} (hm : 0 < m) :
    F__law_take_e5cf [.ref 0, .p (.int m)] [hand ds at'] = .ok (.p (.int (takeV ds at' m))) [hand ds (at' + 1)] := by
  have hn : ([hand ds (at' + 1)] : RH)[0]? = some (hand ds (at' + 1)) := rfl
  have h : ([hand ds at'] : RH)[0]? = some (hand ds at') := rfl
  have hs : stoG [hand ds at'] 0 (hand ds at') (some (.int 1)) (.p (.int (at' + 1))) = some [hand ds (at' + 1)] := rfl
  have hv : ∀ d, stoF [hand ds at'] (.ref 0) (.p (.int 1)) d = stoG [hand ds at'] 0 (hand ds at') (some (.int 1)) d := fun d => e_stoF h
  unfold hand at h hn hs hv ⊢
  unfold F__law_take_e5cf B__law_take_e5cf
  simp_arith [e_viewr', h, hv, hs, hn]
  by_cases hc : ((ds.map P.int).length : Int) ≤ at'
  · simp_arith [hc]
    have : ds[at']? = none := by rw [List.length_map] at hc; exact List.getElem?_eq_none (by omega)
    unfold takeV
    rw [this]
  · have hlt : at' < ds.length := by rw [List.length_map] at hc; omega
    have hg : (ds.map P.int)[at']? = some (.int ds[at']) := by rw [List.getElem?_map, List.getElem?_eq_getElem hlt]; rfl
    simp_arith [hc, e_viewr', hn, atI_nat' hg, g_fdiv (i := ds[at']) (j := 7) ⟨by decide, by decide⟩, g_mod hm]
    unfold takeV
    rw [List.getElem?_eq_getElem hlt]
theorem take_run {ds : List Int} {at' m : Nat} (hm : 0 < m) : ∃ k : Nat, k < m ∧ F__law_take_e5cf [.ref 0, .p (.int (m : Nat))] [hand ds at'] = .ok (.p (.int (k : Nat))) [hand ds (at' + 1)] := by
  have h := takeV_bnd (ds := ds) (at' := at') (m := (m : Int)) (by omega)
  obtain ⟨k, hk⟩ := Int.eq_ofNat_of_zero_le h.1
  exact ⟨k, by omega, by rw [take_run0 (by omega), hk]⟩
theorem draws_run {ns : List Int} {k : Nat} (hk : k ≤ 100000) (hns : ns.length ≤ 1000) : ∃ ds : List Int, F__law_draws_f854 [.fl (iL ns), .int (k : Nat)] = .ok (.fl (iL ds)) := by
  unfold F__law_draws_f854 B__law_draws_f854
  simp_arith []
  rw [KCompO_ok (small (by rw [iL_len]; omega))]
  generalize e : compL _ _ _ _ _ _ = r
  obtain ⟨ys, η, rfl, rfl, vs, rfl, hl⟩ := comp_done e (fun i ys η => η = [] ∧ ∃ vs : List Int, ys = iL vs ∧ vs.length = i) ⟨rfl, [], rfl, rfl⟩ (by
    rintro i x ys η hx ⟨rfl, vs, rfl, hl⟩
    obtain ⟨v, rfl, hv⟩ := iL_of hx
    simp_arith []
    exact ⟨vs ++ [_], rfl, by rw [List.length_append, hl]; rfl⟩)
  simp_arith [g_rngN (k := k) (by omega)]
  generalize e2 : forL _ _ _ _ _ = r2
  obtain ⟨ρ, η, rfl, rfl, vs2, ys2, rfl, hl2, hy2⟩ := for_done e2 (fun i ρ η => ρ = [some (D.p (P.fl (iL ns))), (if i = 0 then some (.p (.int (k : Nat))) else none), some (D.ref 0), none, some (D.ref 1), none, none, none] ∧ ∃ vs ys, η = [.ls (iL vs), .ls (iL ys)] ∧ vs.length = ns.length ∧ ys.length = i)
    ⟨rfl, vs, [], rfl, by rw [hl, iL_len], rfl⟩ (by
    rintro i x ρ η hx ⟨rfl, vs, ys, rfl, hl, hy⟩
    obtain ⟨rfl, hi⟩ := range_get hx
    generalize (if i = 0 then some (D.p (P.int (k : Nat))) else none) = r1
    have hy3 : (iL ys).length < sizeLine := small' (by rw [iL_len]; omega)
    rw [if_neg (Nat.succ_ne_zero i)]
    by_cases hc : (0 : Int) < ns.length
    · have hm : (i : Int) % (ns.length : Int) = ((i % ns.length : Nat) : Int) := by omega
      have hlt : i % ns.length < ns.length := Nat.mod_lt _ (by omega)
      have g1 : atI (iL ns) ((i % ns.length : Nat) : Int) = some (.int ns[i % ns.length]) := atI_nat (iL_get (List.getElem?_eq_getElem hlt))
      have g2 : atI (iL vs) ((i % ns.length : Nat) : Int) = some (.int vs[i % ns.length]) := atI_nat (iL_get (List.getElem?_eq_getElem (by omega)))
      by_cases h1 : (1000000000000000000 : Int) ≤ ns[i % ns.length]
      · by_cases h2 : (0 : Int) < vs[i % ns.length]
        · simp_arith [hc, hm, g1, g2, h1, h2, app_ls hy3, ix_nat (show i % ns.length < vs.length by omega)]
          exact ⟨_, _, rfl, by first | exact hl | rw [List.length_set, hl], by rw [List.length_append, hy]; rfl⟩
        · simp_arith [hc, hm, g1, g2, h1, h2, app_ls hy3]
          exact ⟨_, _, rfl, by first | exact hl | rw [List.length_set, hl], by rw [List.length_append, hy]; rfl⟩
      · simp_arith [hc, hm, g1, g2, h1, app_ls hy3]
        exact ⟨_, _, rfl, hl, by rw [List.length_append, hy]; rfl⟩
    · simp_arith [hc, app_ls hy3]
      exact ⟨_, _, rfl, hl, by rw [List.length_append, hy]; rfl⟩)
  clear e e2
  simp_arith []
  exact ⟨ys2, rfl⟩
def nL (l : List Nat) : List P := iL (l.map fun n : Nat => ((n : Nat) : Int))
theorem nL_len {l : List Nat} : (nL l).length = l.length := by unfold nL; rw [iL_len, List.length_map]
theorem nL_map {l : List Nat} : nL l = l.map fun n => P.int (n : Nat) := by unfold nL iL; rw [List.map_map]; rfl
theorem nL_snoc {l : List Nat} {v : Nat} : nL l ++ [.int (v : Nat)] = nL (l ++ [v]) := by simp [nL_map]
theorem nL_get {l : List Nat} {i v : Nat} (h : l[i]? = some v) : (nL l)[i]? = some (.int (v : Nat)) := by rw [nL_map, List.getElem?_map, h]; rfl
theorem nL_at {l : List Nat} {i : Nat} (h : i < l.length) : atI (nL l) ((i : Nat) : Int) = some (.int (l[i] : Nat)) := atI_nat' (nL_get (List.getElem?_eq_getElem h))
structure GoodLot (m : Nat) (l : List Nat) : Prop where
  ne : l ≠ []
  up : l.Pairwise (· < ·)
  lt : ∀ v ∈ l, v < m
theorem up_len {l : List Nat} {m : Nat} (up : l.Pairwise (· < ·)) (lt : ∀ v ∈ l, v < m) : l.length ≤ m := by
  have h : ∀ (l : List Nat) (k : Nat), l.Pairwise (· < ·) → (∀ v ∈ l, k ≤ v ∧ v < m) → l.length + k ≤ max m k := by
    intro l
    induction l with
    | nil => intro k _ _; simp; omega
    | cons a l ih =>
      intro k h1 h2
      obtain ⟨h3, h4⟩ := List.pairwise_cons.mp h1
      have ha := h2 a List.mem_cons_self
      have := ih (a + 1) h4 fun v hv => ⟨h3 v hv, (h2 v (List.mem_cons_of_mem _ hv)).2⟩
      simp only [List.length_cons]
      omega
  have := h l 0 up fun v hv => ⟨Nat.zero_le _, lt v hv⟩
  omega
theorem GoodLot.len {m : Nat} {l : List Nat} (h : GoodLot m l) : l.length ≤ m := up_len h.up h.lt
def plL (pl : List (List Nat)) : List P := pl.map fun l => .tup (nL l)
theorem plL_len {pl : List (List Nat)} : (plL pl).length = pl.length := List.length_map ..
theorem plL_get {pl : List (List Nat)} {i : Nat} {l : List Nat} (h : pl[i]? = some l) : (plL pl)[i]? = some (.tup (nL l)) := by unfold plL; rw [List.getElem?_map, h]; rfl
def GoodPl (m : Nat) (pl : List (List Nat)) : Prop := ∀ l ∈ pl, GoodLot m l
theorem lot_run {ds : List Int} {at' m : Nat} (hm : 0 < m) (hm2 : m ≤ 1000) : ∃ l at2, GoodLot m l ∧ F__law_lot_2987 [.ref 0, .p (.int (m : Nat))] [hand ds at'] = .ok (.p (.tup (nL l))) [hand ds at2] := by
  unfold F__law_lot_2987 B__law_lot_2987
  simp_arith [g_rngN (k := m) (by omega)]
  rw [KComp_ok (small (by rw [range_len]; omega))]
  generalize e : compL _ _ _ _ _ _ = r
  obtain ⟨ys, η, rfl, l, at2, rfl, rfl, up, lt⟩ := comp_done e (fun i ys η => ∃ l at2, ys = nL l ∧ η = [hand ds at2] ∧ l.Pairwise (· < ·) ∧ ∀ v ∈ l, v < i) ⟨[], at', rfl, rfl, List.Pairwise.nil, fun v h => (nomatch h)⟩ (by
    rintro i x ys η hx ⟨l, at1, rfl, rfl, up, lt⟩
    obtain ⟨rfl, hi⟩ := range_get hx
    obtain ⟨k, hk, ek⟩ := take_run (ds := ds) (at' := at1) (m := 2) (by decide)
    have ek : F__law_take_e5cf [.ref 0, .p (.int 2)] [hand ds at1] = _ := ek
    by_cases h0 : (k : Int) = 0
    · simp_arith [ek, h0]
      refine ⟨l ++ [i], at1 + 1, nL_snoc, rfl, List.pairwise_append.mpr ⟨up, List.pairwise_singleton .., fun a ha b hb => ?_⟩, fun v hv => ?_⟩
      · rw [List.mem_singleton.mp hb]
        exact lt a ha
      · rcases List.mem_append.mp hv with hv | hv
        · exact Nat.lt_succ_of_lt (lt v hv)
        · rw [List.mem_singleton.mp hv]
          exact Nat.lt_succ_self _
    · simp_arith [ek, h0]
      exact ⟨l, at1 + 1, rfl, rfl, up, fun v hv => Nat.lt_succ_of_lt (lt v hv)⟩)
  rw [range_len] at lt
  simp_arith [nL_len]
  by_cases h0 : (l.length : Int) = 0
  · obtain ⟨k, hk, ek⟩ := take_run (ds := ds) (at' := at2) (m := m) hm
    simp_arith [h0, ek]
    exact ⟨[k], _, ⟨by simp, List.pairwise_singleton .., fun v hv => by rw [List.mem_singleton.mp hv]; exact hk⟩, rfl⟩
  · simp_arith [h0]
    refine ⟨l, _, ⟨fun h => h0 ?_, up, lt⟩, rfl⟩
    rw [h]
    rfl
theorem placing_run {ds : List Int} {at' m k : Nat} (hm : 0 < m) (hm2 : m ≤ 1000) (hk : k ≤ 1000) : ∃ pl at2, pl.length = k ∧ GoodPl m pl ∧ F__law_placing_eb96 [.ref 0, .p (.int (m : Nat)), .p (.int (k : Nat))] [hand ds at'] = .ok (.p (.tup (plL pl))) [hand ds at2] := by
  unfold F__law_placing_eb96 B__law_placing_eb96
  simp_arith [g_rngN (k := k) (by omega)]
  rw [KComp_ok (small (by rw [range_len]; omega))]
  obtain ⟨pl, at2, e, hl, hg⟩ := comp_draw (ds := ds) (at' := at') (t := .nm 3) (tt := yesT) (te := callL (arityS 2 F__law_lot_2987) (consA (nameM 0) (consA (nameM 1) nilA))) (ρ0 := [some (D.ref 0), some (D.p (P.int (m : Nat))), some (D.p (P.int (k : Nat))), none]) (xs := rangeP 0 k) (enc := fun l => .tup (nL l)) (fun _ l => GoodLot m l) (by
    intro i x at1 hx
    obtain ⟨rfl, hi⟩ := range_get hx
    obtain ⟨l, at2, gl, el⟩ := lot_run (ds := ds) (at' := at1) hm hm2
    refine ⟨l, at2, gl, ?_⟩
    simp_arith [el])
  rw [e]
  rw [range_len] at hl
  simp_arith []
  refine ⟨pl, at2, hl, fun l hl => ?_, rfl⟩
  obtain ⟨i, hi⟩ := List.mem_iff_getElem?.mp hl
  exact hg i l hi
def lk : Nat → P → Prop
  | 0, _ => False
  | n + 1, .tup xs => xs.length ≤ 1000000 ∧ ∀ y ∈ xs, lk n y
  | n + 1, .fl xs => xs.length ≤ 1000000 ∧ ∀ y ∈ xs, lk n y
  | _ + 1, .fi _ _ => False
  | _ + 1, .str s => okP (.str s) = true
  | _ + 1, _ => True
theorem like_same : ∀ (n : Nat) (x : P), lk n x → F__law_like_534a n [x, x] = .ok (.bl true)
  | 0, _, h => h.elim
  | n + 1, .non, _ => by unfold F__law_like_534a B__law_like_534a; simp_arith []
  | n + 1, .bl b, _ => by unfold F__law_like_534a B__law_like_534a; simp_arith []
  | n + 1, .int i, _ => by unfold F__law_like_534a B__law_like_534a; simp_arith []
  | n + 1, .str s, h => by unfold F__law_like_534a B__law_like_534a; simp_arith [g_eqS h]
  | n + 1, .fi c xs, h => h.elim
  | n + 1, .tup xs, h => by
    unfold F__law_like_534a B__law_like_534a
    simp_arith [g_rngN (k := xs.length) (by have := h.1; omega)]
    generalize e : forL _ _ _ _ _ = r
    obtain ⟨ρ, η, rfl, rfl, rfl⟩ := for_done e (fun i ρ η => ρ = [some (.p (.tup xs)), some (.p (.tup xs)), none] ∧ η = []) ⟨rfl, rfl⟩ (by
      rintro i x ρ η hx ⟨rfl, rfl⟩
      obtain ⟨rfl, hi⟩ := range_get hx
      have hy := like_same n xs[i] (h.2 _ (List.getElem_mem hi))
      simp_arith [atI_nat' (List.getElem?_eq_getElem hi), hy])
    simp_arith []
  | n + 1, .fl xs, h => by
    unfold F__law_like_534a B__law_like_534a
    simp_arith [g_rngN (k := xs.length) (by have := h.1; omega)]
    generalize e : forL _ _ _ _ _ = r
    obtain ⟨ρ, η, rfl, rfl, rfl⟩ := for_done e (fun i ρ η => ρ = [some (.p (.fl xs)), some (.p (.fl xs)), none] ∧ η = []) ⟨rfl, rfl⟩ (by
      rintro i x ρ η hx ⟨rfl, rfl⟩
      obtain ⟨rfl, hi⟩ := range_get hx
      have hy := like_same n xs[i] (h.2 _ (List.getElem_mem hi))
      simp_arith [atI_nat' (List.getElem?_eq_getElem hi), hy])
    simp_arith []
theorem lk_tup {n : Nat} {xs : List P} (h1 : xs.length ≤ 1000000) (h2 : ∀ y ∈ xs, lk n y) : lk (n + 1) (.tup xs) := ⟨h1, h2⟩
theorem lk_nL {n : Nat} {l : List Nat} : ∀ y ∈ nL l, lk (n + 1) y := fun y hy => by
  rw [nL_map] at hy
  obtain ⟨v, _, rfl⟩ := List.mem_map.mp hy
  trivial
section
variable {xs ys : List P} {a b : Nat}
theorem cast1' : (1 : Int) + ((a : Nat) : Int) = ((a + 1 : Nat) : Int) := by omega
end
theorem asBls_map {α : Type} (f : α → Bool) : ∀ xs : List α, asBls (xs.map fun x => P.bl (f x)) = some (xs.map f)
  | [] => rfl
  | x :: xs => by
    have e := asBls_map f xs
    simp only [List.map_cons, asBls, e] <;> rfl
theorem g_all {α : Type} (f : α → Bool) (xs : List α) : allG [.fl (xs.map fun x => P.bl (f x))] = some (.bl (xs.all f)) := by
  show (asBls _).map _ = _
  rw [asBls_map f xs]
  simp [List.all_map]
end C
set_option Elab.async false
set_option linter.all false
set_option maxRecDepth 100000
local macro_rules | `(tactic| simp_arith [$ts,*]) => `(tactic| simp only [ML.e_name, ML.e_look, ML.e_c, ML.e_ofO, ML.e_ofOn, ML.e_ofB, ML.e_ofL, ML.app1_some, ML.app2_some, ML.e_op2, ML.K2_ok, ML.K2b_ok, ML.e_op1, ML.K1_ok, ML.e_view, ML.e_viewO, ML.e_nil, ML.e_cons, ML.KC_ok, ML.KC2_ok, ML.e_asPs0, ML.e_asPs, ML.consO_some, ML.e_views0, ML.e_views, ML.consOO_some, ML.appL_some, ML.e_opA, ML.KA_ok, ML.e_opV, ML.KV_ok, ML.e_tst, ML.KT_ok, ML.e_asB, ML.e_and, ML.e_or, ML.e_not, ML.KAnd_t, ML.KAnd_f, ML.KOr_t, ML.KOr_f, ML.KNot_ok, ML.e_yes, ML.e_andV, ML.e_notV, ML.KAndV_t, ML.KAndV_f, ML.KNotV_ok, ML.e_chain, ML.KCh_ok, ML.KCh2_ok, ML.KChB_t, ML.KChB_f, ML.KCh3_ok, ML.e_isi, ML.KIsi_ok, ML.e_call, ML.KCall_ok, ML.callR_some, ML.retR_ok, ML.retR_ex, ML.e_mth, ML.KM_ok, ML.KM1_t, ML.KM2_ok, ML.mthR_some, ML.tyO_some, ML.e_own, ML.ownO_some, ML.e_isLs, ML.e_isLr, ML.e_ls, ML.KLs_ok, ML.e_set, ML.KSet_ok, ML.KSet_ex, ML.e_ret, ML.KRet_ok, ML.KRet_ex, ML.e_exp, ML.KExp_ok, ML.KExp_ex, ML.e_asg, ML.KAsg_ok, ML.e_aug, ML.e_if, ML.KIfS_t, ML.KIfS_f, ML.e_seq, ML.KSeq_nx, ML.KSeq_rt, ML.KSeq_ct, ML.KSeq_bk, ML.KSeq_ex, ML.e_pass, ML.e_cnt, ML.e_sto, ML.KSto_ok, ML.KSto2_ok, ML.KSto3_ok, ML.stoR_some, ML.e_iter, ML.KIt_ok, ML.seq_fl, ML.seq_tup, ML.appLL_some, ML.e_itA, ML.KItA_ok, ML.e_for, ML.KFor_ok, ML.forB_some, ML.forK_nx, ML.forK_ct, ML.forK_bk, ML.forK_rt, ML.e_comp, ML.cmpR_ok, ML.e_compO, ML.cmpRO_ok, ML.compB_some, ML.compT_t, ML.compT_f, ML.compE_ok, ML.cons1_ok, ML.e_tgn, ML.e_tgt, ML.e_tgs0, ML.e_tgs, ML.tgK_some, ML.e_fnP, ML.fnR_nx, ML.fnR_rt, ML.fnR_ex, ML.retP_p, ML.e_fnS, ML.fnRS_nx, ML.fnRS_rt, ML.fnRS_ex, ML.g_addI, ML.g_subI, ML.g_negI, ML.g_lt, ML.g_le, ML.g_gt, ML.g_ge, ML.g_int, ML.g_lenf, ML.g_lent, ML.g_tupf, ML.g_tupt, ML.g_isN, ML.g_ixf, ML.g_ixt, ML.g_en, ML.g_ent, ML.ar0, ML.ar1, ML.ar2, ML.ar3, ML.ar4, ML.ar5, ML.as0, ML.as1, ML.as2, ML.as3, ML.as4, ML.as5, ML.tp60_0, ML.tp60_1, ML.tp60_2, ML.tp60_3, ML.tp60_4, ML.tp60_5, ML.fl60_0, ML.fl60_1, ML.fl60_2, ML.fl60_3, ML.fl60_4, ML.ls60_0, ML.ls60_1, ML.ls60_2, ML.ls60_3, ML.look_n, ML.at0, ML.at1, ML.at2, ML.startP_eq, ML.startD_eq, ML.li_set0, ML.li_setS, ML.li_get0, ML.li_getS, ML.li_map0, ML.li_mapS, ML.li_len0, ML.li_lenS, ML.li_app0, ML.li_appS, ML.li_rep0, ML.li_repS, ML.bo_nt, ML.bo_nf, ML.de_t, ML.de_f, ML.wi0, ML.wiS, ML.stB_some, ML.After_nx, ML.After_ct, ML.After_bk, ML.After_rt, ML.After_ex, ML.stC_some, ML.stC1_t, ML.stC1_f, ML.stC2_ok, ML.Aft_ok, ML.addO_s, ML.addO_n, ML.g_pow18, ML.g_abs, Nat.zero_add, Nat.reduceAdd, true_and, ML.iL_snoc, ML.iL_set, ML.iL_len, ML.g_mod, ML.g_fdiv, ML.g_mulR, ML.g_mulL, ML.mod_small, ML.e_sto1, ML.stoK_some, ML.stoG_ls, ML.setO_some, ML.retP_self, ML.retP1_ls, Int.reduceLT, Int.reduceLE, Int.reduceNeg, Nat.reduceLT, Nat.reduceLeDiff, and_self, Int.zero_add, Nat.add_zero, ML.e_viewr', ML.is_tuple_int, ML.is_tuple_bl, ML.is_tuple_str, ML.is_tuple_tup, ML.is_tuple_fl, ML.is_tuple_non, ML.is_list_int, ML.is_list_bl, ML.is_list_str, ML.is_list_tup, ML.is_list_fl, ML.is_list_non, ML.is_int_int, ML.is_int_bl, ML.is_int_str, ML.is_int_tup, ML.is_int_fl, ML.is_int_non, ML.is_bool_int, ML.is_bool_bl, ML.is_bool_str, ML.is_bool_tup, ML.is_bool_fl, ML.is_bool_non, ML.is_str_int, ML.is_str_bl, ML.is_str_str, ML.is_str_tup, ML.is_str_fl, ML.is_str_non, ML.g_eqI, ML.g_neI, ML.g_eqB, ML.g_neB, ML.nn_int, ML.nn_bl, ML.nn_str, ML.nn_tup, ML.nn_fl, ML.nn_non, eq_self, reduceCtorEq, if_true, if_false, Int.reduceEq, ML.e_raise, ML.KRaise_ok, ML.raiseR_1, ML.raiseR_2, ML.ixL_hit, ML.part_none, ML.part_some, ML.KPart_ok, ML.partR_int, ML.e_sl, ML.KSl_ok, ML.KSl2_ok, ML.KSl3_ok, ML.cutG_tup, ML.cutG_fl, ML.nc0, ML.nc1, ML.nc2, ML.nc3, ML.nc4, ML.nc5, ML.nc6, ML.nc7, ML.nc8, ML.nc9, ML.nc10, ML.e_callL, ML.KCL_ok, ML.e_locR, ML.locI_t, ML.rf_nil, ML.rf_ref, ML.rf_p, ML.rn_nil, ML.rn_ref, ML.rn_p, ML.nd0, ML.nd1, ML.ga_nil, ML.ga_cons, ML.gk_ls, ML.gk_dc, ML.gk_dt, ML.gk_hd, ML.lk_ok, ML.lk_ex, ML.le_some, ML.pa_nil, ML.pa_ls, ML.pa_dc, ML.pa_dt, ML.pa_hd, ML.lo_p, ML.lo_ref, ML.rk_some, ML.rk_ls, ML.rk_dc, ML.rk_dt, ML.e_gc, ML.gc_nx, ML.gc_ct, ML.gc_rt, ML.gc_bk, ML.gc_ex, ML.mk_nil, ML.mk_t, ML.mk_f, ML.tp_nil, ML.tp_none, ML.tp_p, ML.tp_xv, ML.tp_ref, ML.e_cut, ML.cut_t, ML.tk_0, ML.tk_nil, ML.tk_S, ML.al_nil, ML.al_cons, ML.fo_ls, ML.fo_dc, ML.fo_dt, ML.fo_hd, ML.bo_tt, ML.mx_def, ML.e_att, ML.KAtt_ok, ML.attR_fi, ML.ixP_some, ML.attR_ref, ML.lkR_s, ML.fl_hit, ML.e_isi2, ML.mkK_ex, ML.mkI_s, ML.e_attS, ML.KAtS_ok, ML.KAtS2_ok, ML.atSR_s, ML.e_attO, ML.attO2_s, ML.attO3_t, ML.ocL_hit, ML.putD_nil, ML.ixL_miss, ML.fo_in, ML.cut_f, ML.bo_ft, ML.is2_int, ML.is2_tup, ML.is2_fl, ML.is2_non, ML.fl60_5, ML.fl60_6, ML.fl60_7, ML.fl60_8, ML.fl60_9, ML.fl60_10, ML.fl60_11, ML.fl60_12, ML.tp60_6, ML.tp60_7, ML.c3t0, ML.c3t1, ML.c3t2, ML.c3d1, ML.c3d2, ML.c3d3, Int.reduceAdd, ML.asgR_some, ML.g_eqPair, ML.g_nePair, Nat.reduceBEq, Nat.reduceSub, Nat.reduceDiv, $ts,*])
namespace C
open PySem L2 ML U
def ift : P → Int → Int → Bool
  | .int v, lo, hi => decide (lo ≤ v) && decide (v ≤ hi)
  | _, _, _ => false
theorem ift_run {x : P} {lo hi : Int} (hx : plainP x = true) : F_is_from_to_bc13 [x, .int lo, .int hi] = .ok (.bl (ift x lo hi)) := by
  unfold F_is_from_to_bc13 B_is_from_to_bc13
  cases x with
  | fi c xs => cases hx
  | int v =>
    by_cases h : lo ≤ v
    · simp_arith [h]
      simp [ift, h]
    · simp_arith [h]
      simp [ift, h]
  | _ => simp_arith []; simp [ift]
def clP (racks rooms rates : List Nat) : P := .fi 20 [.tup (nL racks), .tup (nL rooms), .tup (nL rates), .int (racks.length : Nat)]
structure GoodCl (n : Nat) (racks rooms rates : List Nat) : Prop where
  l1 : racks.length = n
  l2 : rooms.length = n
  l3 : rates.length = n
  pos : 0 < n
  le : n ≤ 8
  b1 : ∀ v ∈ racks, v ≤ 99
  b2 : ∀ v ∈ rooms, v ≤ 99
  b3 : ∀ v ∈ rates, 1 ≤ v ∧ v ≤ 8
theorem pt1 {x y : D} : putD "rooms" y [(("racks" : Str), x)] = [(("racks" : Str), x), (("rooms" : Str), y)] := by with_unfolding_all rfl
theorem pt2 {x y z : D} : putD "rates" z [(("racks" : Str), x), (("rooms" : Str), y)] = [(("racks" : Str), x), (("rooms" : Str), y), (("rates" : Str), z)] := by with_unfolding_all rfl
theorem pt3 {x y z w : D} : putD "store_count" w [(("racks" : Str), x), (("rooms" : Str), y), (("rates" : Str), z)] = [(("racks" : Str), x), (("rooms" : Str), y), (("rates" : Str), z), (("store_count" : Str), w)] := by with_unfolding_all rfl
theorem mk_cl {a b c d : P} {η : RH} : mkK 20 ["racks", "rooms", "rates", "store_count"] (.ok (.p .non) (.ins 20 [(("racks" : Str), .p a), (("rooms" : Str), .p b), (("rates" : Str), .p c), (("store_count" : Str), .p d)] :: η)) = .ok (.fi 20 [a, b, c, d]) := by
  rw [mkK_ok]
  exact (congrArg (fun z => mkI 20 z _) (decide_eq_true rfl)).trans rfl
theorem look_run {b : SM} {t : Tg} {l : List Nat} {ρ0 ρ1 : LEnv} {η : RH} {r : SRes} (e : forL t b (enumP 0 (nL l)) ρ0 η = r)
    (h0 : ρ0 = ρ1 ∨ l ≠ []) (h : ∀ (i v : Nat) (ρ : LEnv), l[i]? = some v → ρ = ρ0 ∨ ρ = ρ1 → stB b (tgS t (.p (.tup [.int (i : Nat), .int (v : Nat)])) ρ) η = .nx ρ1 η) : r = .nx ρ1 η := by
  obtain ⟨ρ', η', rfl, h1, rfl⟩ := for_done e (fun i ρ η' => ((i = 0 ∧ ρ = ρ0) ∨ ρ = ρ1) ∧ η' = η) ⟨.inl ⟨rfl, rfl⟩, rfl⟩ (by
    rintro i x ρ η' hx ⟨h1, rfl⟩
    obtain ⟨y, hy, rfl⟩ := enum_get hx
    rw [nL_map, List.getElem?_map] at hy
    obtain ⟨v, hv, rfl⟩ := Option.map_eq_some_iff.mp hy
    rw [h i v ρ hv (h1.imp (·.2) id), After_nx]
    exact ⟨.inr rfl, rfl⟩)
  rcases h1 with ⟨h1, rfl⟩ | rfl
  · rw [enumP_length, nL_len] at h1
    rcases h0 with rfl | h0
    · rfl
    · exact absurd (List.length_eq_zero_iff.mp h1) h0
  · rfl
theorem init_run {n : Nat} {racks rooms rates : List Nat} (h : GoodCl n racks rooms rates) :
    mkP 20 ["racks", "rooms", "rates", "store_count"] F_Cluster___init___47d9 [.tup (nL racks), .tup (nL rooms), .tup (nL rates)] = .ok (clP racks rooms rates) := by
  have hp := h.pos
  have hle := h.le
  have q1 : ((1 : Int) ≤ (racks.length : Nat)) = True := by rw [h.l1]; simp; omega
  have q2 : (((racks.length : Nat) : Int) ≤ 8) = True := by rw [h.l1]; simp; omega
  have q3 : (((rooms.length : Nat) : Int) = (racks.length : Nat)) = True := by rw [h.l1, h.l2]; simp
  have q4 : (((rates.length : Nat) : Int) = (racks.length : Nat)) = True := by rw [h.l1, h.l3]; simp
  have n1 : racks ≠ [] := fun e => by have := h.l1; rw [e] at this; simp at this; omega
  have n2 : rooms ≠ [] := fun e => by have := h.l2; rw [e] at this; simp at this; omega
  have n3 : rates ≠ [] := fun e => by have := h.l3; rw [e] at this; simp at this; omega
  unfold F_Cluster___init___47d9 B_Cluster___init___47d9
  rw [e_mkP]
  simp_arith [nL_len, q1, q2]
  generalize e : forL _ _ _ _ _ = r
  have e1 := look_run e (ρ1 := [some (.ref 0), some (.p (.tup (nL racks))), some (.p (.tup (nL rooms))), some (.p (.tup (nL rates))), none, none, none, none]) (.inr n1) (by
    intro i v ρ hv hρ
    have hb := h.b1 v (List.mem_of_getElem? hv)
    have ef := ift_run (x := .int (v : Nat)) (lo := 0) (hi := 99) rfl
    have hi : ift (.int (v : Nat)) 0 99 = true := by simp [ift]; omega
    rcases hρ with rfl | rfl <;> simp_arith [ef, hi])
  subst e1
  simp_arith [nL_len, q3]
  generalize e : forL _ _ _ _ _ = r
  have e1 := look_run e (ρ1 := [some (.ref 0), some (.p (.tup (nL racks))), some (.p (.tup (nL rooms))), some (.p (.tup (nL rates))), none, none, none, none]) (.inr n2) (by
    intro i v ρ hv hρ
    have hb := h.b2 v (List.mem_of_getElem? hv)
    have ef := ift_run (x := .int (v : Nat)) (lo := 0) (hi := 99) rfl
    have hi : ift (.int (v : Nat)) 0 99 = true := by simp [ift]; omega
    rcases hρ with rfl | rfl <;> simp_arith [ef, hi])
  subst e1
  simp_arith [nL_len, q4]
  generalize e : forL _ _ _ _ _ = r
  have e1 := look_run e (ρ1 := [some (.ref 0), some (.p (.tup (nL racks))), some (.p (.tup (nL rooms))), some (.p (.tup (nL rates))), none, none, none, none]) (.inr n3) (by
    intro i v ρ hv hρ
    have hb := h.b3 v (List.mem_of_getElem? hv)
    have ef := ift_run (x := .int (v : Nat)) (lo := 1) (hi := 8) rfl
    have hi : ift (.int (v : Nat)) 1 8 = true := by simp [ift]; omega
    rcases hρ with rfl | rfl <;> simp_arith [ef, hi])
  subst e1
  simp_arith [nL_len, pt1, pt2, pt3]
  exact mk_cl
theorem cluster_run {ds : List Int} {at' m : Nat} (hm : 0 < m) (hm2 : m ≤ 8) : ∃ n racks rooms rates at2, n ≤ m ∧ GoodCl n racks rooms rates ∧ F__law_cluster_0997 [.ref 0, .p (.int (m : Nat))] [hand ds at'] = .ok (.p (.tup [.tup (nL racks), .tup (nL rooms), .tup (nL rates)])) [hand ds at2] := by
  obtain ⟨k, hk, e1⟩ := take_run (ds := ds) (at' := at') (m := m) hm
  unfold F__law_cluster_0997 B__law_cluster_0997
  simp_arith [e1, cast1', g_rngN (k := k + 1) (by omega)]
  rw [KComp_ok (small (by rw [range_len]; omega))]
  generalize hc1 : compL _ _ _ _ _ _ = r
  obtain ⟨racks, at2, e2, h1, b1⟩ := comp_draw (ds := ds) (at' := at' + 1) (t := .nm 4) (tt := yesT) (te := op2 gIx (opA flG (consA (cM (.int 0)) (consA (cM (.int 1)) (consA (cM (.int 2)) (consA (cM (.int 3)) (consA (cM (.int 1)) (consA (cM (.int 99)) nilA))))))) (callL (arityS 2 F__law_take_e5cf) (consA (nameM 0) (consA (cM (.int 6)) nilA))))
    (ρ0 := [some (D.ref 0), some (D.p (P.int (m : Nat))), some (D.p (P.int ((k + 1 : Nat) : Int))), none, none, none]) (xs := rangeP 0 (k + 1)) (enc := fun n : Nat => P.int (n : Nat)) (fun _ v => v ≤ 99) (by
    intro i x at1 hx
    obtain ⟨rfl, hi⟩ := range_get hx
    obtain ⟨w, hw, ew⟩ := take_run (ds := ds) (at' := at1) (m := 6) (by decide)
    have ew : F__law_take_e5cf [.ref 0, .p (.int 6)] [hand ds at1] = _ := ew
    have ep : atI [P.int 0, .int 1, .int 2, .int 3, .int 1, .int 99] ((w : Nat) : Int) = some (.int (([0, 1, 2, 3, 1, 99] : List Nat)[w] : Nat)) := nL_at (l := [0, 1, 2, 3, 1, 99]) hw
    refine ⟨([0, 1, 2, 3, 1, 99] : List Nat)[w], at1 + 1, ?_, ?_⟩
    · have := List.getElem_mem (l := ([0, 1, 2, 3, 1, 99] : List Nat)) hw
      simp only [List.mem_cons, List.not_mem_nil, or_false] at this
      omega
    · simp_arith [ew, ep])
  rw [e2] at hc1
  subst hc1
  simp_arith [g_rngN (k := k + 1) (by omega)]
  rw [KComp_ok (small (by rw [range_len]; omega))]
  generalize hc1 : compL _ _ _ _ _ _ = r
  obtain ⟨rooms, at3, e3, h2, b2⟩ := comp_draw (ds := ds) (at' := at2) (t := .nm 4) (tt := yesT) (te := op2 gIx (opA flG (consA (cM (.int 0)) (consA (cM (.int 1)) (consA (cM (.int 2)) (consA (cM (.int 3)) (consA (cM (.int 1)) (consA (cM (.int 2)) (consA (cM (.int 99)) (consA (cM (.int 4)) nilA))))))))) (callL (arityS 2 F__law_take_e5cf) (consA (nameM 0) (consA (cM (.int 8)) nilA))))
    (ρ0 := [some (D.ref 0), some (D.p (P.int (m : Nat))), some (D.p (P.int ((k + 1 : Nat) : Int))), some (.p (.tup (List.map (fun n : Nat => P.int (n : Nat)) racks))), none, none]) (xs := rangeP 0 (k + 1)) (enc := fun n : Nat => P.int (n : Nat)) (fun _ v => v ≤ 99) (by
    intro i x at1 hx
    obtain ⟨rfl, hi⟩ := range_get hx
    obtain ⟨w, hw, ew⟩ := take_run (ds := ds) (at' := at1) (m := 8) (by decide)
    have ew : F__law_take_e5cf [.ref 0, .p (.int 8)] [hand ds at1] = _ := ew
    have ep : atI [P.int 0, .int 1, .int 2, .int 3, .int 1, .int 2, .int 99, .int 4] ((w : Nat) : Int) = some (.int (([0, 1, 2, 3, 1, 2, 99, 4] : List Nat)[w] : Nat)) := nL_at (l := [0, 1, 2, 3, 1, 2, 99, 4]) hw
    refine ⟨([0, 1, 2, 3, 1, 2, 99, 4] : List Nat)[w], at1 + 1, ?_, ?_⟩
    · have := List.getElem_mem (l := ([0, 1, 2, 3, 1, 2, 99, 4] : List Nat)) hw
      simp only [List.mem_cons, List.not_mem_nil, or_false] at this
      omega
    · simp_arith [ew, ep])
  rw [e3] at hc1
  subst hc1
  simp_arith [g_rngN (k := k + 1) (by omega)]
  rw [KComp_ok (small (by rw [range_len]; omega))]
  generalize hc1 : compL _ _ _ _ _ _ = r
  obtain ⟨rates, at4, e4, h3, b3⟩ := comp_draw (ds := ds) (at' := at3) (t := .nm 4) (tt := yesT) (te := op2 addG (cM (.int 1)) (callL (arityS 2 F__law_take_e5cf) (consA (nameM 0) (consA (cM (.int 8)) nilA))))
    (ρ0 := [some (D.ref 0), some (D.p (P.int (m : Nat))), some (D.p (P.int ((k + 1 : Nat) : Int))), some (.p (.tup (List.map (fun n : Nat => P.int (n : Nat)) racks))), none, some (.p (.tup (List.map (fun n : Nat => P.int (n : Nat)) rooms)))]) (xs := rangeP 0 (k + 1)) (enc := fun n : Nat => P.int (n : Nat)) (fun _ v => 1 ≤ v ∧ v ≤ 8) (by
    intro i x at1 hx
    obtain ⟨rfl, hi⟩ := range_get hx
    obtain ⟨w, hw, ew⟩ := take_run (ds := ds) (at' := at1) (m := 8) (by decide)
    have ew : F__law_take_e5cf [.ref 0, .p (.int 8)] [hand ds at1] = _ := ew
    refine ⟨w + 1, at1 + 1, by omega, ?_⟩
    simp_arith [ew, cast1'])
  rw [e4] at hc1
  subst hc1
  rw [range_len] at h1 h2 h3
  have mem : ∀ {l : List Nat} {Q : Nat → Prop}, (∀ (i : Nat) a, l[i]? = some a → Q a) → ∀ v ∈ l, Q v := fun h v hv => by
    obtain ⟨i, hi⟩ := List.mem_iff_getElem?.mp hv
    exact h i v hi
  simp_arith []
  exact ⟨k + 1, racks, rooms, rates, at4, by omega, ⟨h1, h2, h3, by omega, by omega, mem b1, mem b2, mem b3⟩, by simp only [nL_map]⟩
end C
set_option Elab.async false
set_option linter.all false
set_option maxRecDepth 100000
local macro_rules | `(tactic| simp_arith [$ts,*]) => `(tactic| simp only [ML.e_name, ML.e_look, ML.e_c, ML.e_ofO, ML.e_ofOn, ML.e_ofB, ML.e_ofL, ML.app1_some, ML.app2_some, ML.e_op2, ML.K2_ok, ML.K2b_ok, ML.e_op1, ML.K1_ok, ML.e_view, ML.e_viewO, ML.e_nil, ML.e_cons, ML.KC_ok, ML.KC2_ok, ML.e_asPs0, ML.e_asPs, ML.consO_some, ML.e_views0, ML.e_views, ML.consOO_some, ML.appL_some, ML.e_opA, ML.KA_ok, ML.e_opV, ML.KV_ok, ML.e_tst, ML.KT_ok, ML.e_asB, ML.e_and, ML.e_or, ML.e_not, ML.KAnd_t, ML.KAnd_f, ML.KOr_t, ML.KOr_f, ML.KNot_ok, ML.e_yes, ML.e_andV, ML.e_notV, ML.KAndV_t, ML.KAndV_f, ML.KNotV_ok, ML.e_chain, ML.KCh_ok, ML.KCh2_ok, ML.KChB_t, ML.KChB_f, ML.KCh3_ok, ML.e_isi, ML.KIsi_ok, ML.e_call, ML.KCall_ok, ML.callR_some, ML.retR_ok, ML.retR_ex, ML.e_mth, ML.KM_ok, ML.KM1_t, ML.KM2_ok, ML.mthR_some, ML.tyO_some, ML.e_own, ML.ownO_some, ML.e_isLs, ML.e_isLr, ML.e_ls, ML.KLs_ok, ML.e_set, ML.KSet_ok, ML.KSet_ex, ML.e_ret, ML.KRet_ok, ML.KRet_ex, ML.e_exp, ML.KExp_ok, ML.KExp_ex, ML.e_asg, ML.KAsg_ok, ML.e_aug, ML.e_if, ML.KIfS_t, ML.KIfS_f, ML.e_seq, ML.KSeq_nx, ML.KSeq_rt, ML.KSeq_ct, ML.KSeq_bk, ML.KSeq_ex, ML.e_pass, ML.e_cnt, ML.e_sto, ML.KSto_ok, ML.KSto2_ok, ML.KSto3_ok, ML.stoR_some, ML.e_iter, ML.KIt_ok, ML.seq_fl, ML.seq_tup, ML.appLL_some, ML.e_itA, ML.KItA_ok, ML.e_for, ML.KFor_ok, ML.forB_some, ML.forK_nx, ML.forK_ct, ML.forK_bk, ML.forK_rt, ML.e_comp, ML.cmpR_ok, ML.e_compO, ML.cmpRO_ok, ML.compB_some, ML.compT_t, ML.compT_f, ML.compE_ok, ML.cons1_ok, ML.e_tgn, ML.e_tgt, ML.e_tgs0, ML.e_tgs, ML.tgK_some, ML.e_fnP, ML.fnR_nx, ML.fnR_rt, ML.fnR_ex, ML.retP_p, ML.e_fnS, ML.fnRS_nx, ML.fnRS_rt, ML.fnRS_ex, ML.g_addI, ML.g_subI, ML.g_negI, ML.g_lt, ML.g_le, ML.g_gt, ML.g_ge, ML.g_int, ML.g_lenf, ML.g_lent, ML.g_tupf, ML.g_tupt, ML.g_isN, ML.g_ixf, ML.g_ixt, ML.g_en, ML.g_ent, ML.ar0, ML.ar1, ML.ar2, ML.ar3, ML.ar4, ML.ar5, ML.as0, ML.as1, ML.as2, ML.as3, ML.as4, ML.as5, ML.tp60_0, ML.tp60_1, ML.tp60_2, ML.tp60_3, ML.tp60_4, ML.tp60_5, ML.fl60_0, ML.fl60_1, ML.fl60_2, ML.fl60_3, ML.fl60_4, ML.ls60_0, ML.ls60_1, ML.ls60_2, ML.ls60_3, ML.look_n, ML.at0, ML.at1, ML.at2, ML.startP_eq, ML.startD_eq, ML.li_set0, ML.li_setS, ML.li_get0, ML.li_getS, ML.li_map0, ML.li_mapS, ML.li_len0, ML.li_lenS, ML.li_app0, ML.li_appS, ML.li_rep0, ML.li_repS, ML.bo_nt, ML.bo_nf, ML.de_t, ML.de_f, ML.wi0, ML.wiS, ML.stB_some, ML.After_nx, ML.After_ct, ML.After_bk, ML.After_rt, ML.After_ex, ML.stC_some, ML.stC1_t, ML.stC1_f, ML.stC2_ok, ML.Aft_ok, ML.addO_s, ML.addO_n, ML.g_pow18, ML.g_abs, Nat.zero_add, Nat.reduceAdd, true_and, ML.iL_snoc, ML.iL_set, ML.iL_len, ML.g_mod, ML.g_fdiv, ML.g_mulR, ML.g_mulL, ML.mod_small, ML.e_sto1, ML.stoK_some, ML.stoG_ls, ML.setO_some, ML.retP_self, ML.retP1_ls, Int.reduceLT, Int.reduceLE, Int.reduceNeg, Nat.reduceLT, Nat.reduceLeDiff, and_self, Int.zero_add, Nat.add_zero, ML.e_viewr', ML.is_tuple_int, ML.is_tuple_bl, ML.is_tuple_str, ML.is_tuple_tup, ML.is_tuple_fl, ML.is_tuple_non, ML.is_list_int, ML.is_list_bl, ML.is_list_str, ML.is_list_tup, ML.is_list_fl, ML.is_list_non, ML.is_int_int, ML.is_int_bl, ML.is_int_str, ML.is_int_tup, ML.is_int_fl, ML.is_int_non, ML.is_bool_int, ML.is_bool_bl, ML.is_bool_str, ML.is_bool_tup, ML.is_bool_fl, ML.is_bool_non, ML.is_str_int, ML.is_str_bl, ML.is_str_str, ML.is_str_tup, ML.is_str_fl, ML.is_str_non, ML.g_eqI, ML.g_neI, ML.g_eqB, ML.g_neB, ML.nn_int, ML.nn_bl, ML.nn_str, ML.nn_tup, ML.nn_fl, ML.nn_non, eq_self, reduceCtorEq, if_true, if_false, Int.reduceEq, ML.e_raise, ML.KRaise_ok, ML.raiseR_1, ML.raiseR_2, ML.ixL_hit, ML.part_none, ML.part_some, ML.KPart_ok, ML.partR_int, ML.e_sl, ML.KSl_ok, ML.KSl2_ok, ML.KSl3_ok, ML.cutG_tup, ML.cutG_fl, ML.nc0, ML.nc1, ML.nc2, ML.nc3, ML.nc4, ML.nc5, ML.nc6, ML.nc7, ML.nc8, ML.nc9, ML.nc10, ML.e_callL, ML.KCL_ok, ML.e_locR, ML.locI_t, ML.rf_nil, ML.rf_ref, ML.rf_p, ML.rn_nil, ML.rn_ref, ML.rn_p, ML.nd0, ML.nd1, ML.ga_nil, ML.ga_cons, ML.gk_ls, ML.gk_dc, ML.gk_dt, ML.gk_hd, ML.lk_ok, ML.lk_ex, ML.le_some, ML.pa_nil, ML.pa_ls, ML.pa_dc, ML.pa_dt, ML.pa_hd, ML.lo_p, ML.lo_ref, ML.rk_some, ML.rk_ls, ML.rk_dc, ML.rk_dt, ML.e_gc, ML.gc_nx, ML.gc_ct, ML.gc_rt, ML.gc_bk, ML.gc_ex, ML.mk_nil, ML.mk_t, ML.mk_f, ML.tp_nil, ML.tp_none, ML.tp_p, ML.tp_xv, ML.tp_ref, ML.e_cut, ML.cut_t, ML.tk_0, ML.tk_nil, ML.tk_S, ML.al_nil, ML.al_cons, ML.fo_ls, ML.fo_dc, ML.fo_dt, ML.fo_hd, ML.bo_tt, ML.mx_def, ML.e_att, ML.KAtt_ok, ML.attR_fi, ML.ixP_some, ML.attR_ref, ML.lkR_s, ML.fl_hit, ML.e_isi2, ML.mkK_ex, ML.mkI_s, ML.e_attS, ML.KAtS_ok, ML.KAtS2_ok, ML.atSR_s, ML.e_attO, ML.attO2_s, ML.attO3_t, ML.ocL_hit, ML.putD_nil, ML.ixL_miss, ML.fo_in, ML.cut_f, ML.bo_ft, ML.is2_int, ML.is2_tup, ML.is2_fl, ML.is2_non, ML.fl60_5, ML.fl60_6, ML.fl60_7, ML.fl60_8, ML.fl60_9, ML.fl60_10, ML.fl60_11, ML.fl60_12, ML.tp60_6, ML.tp60_7, ML.c3t0, ML.c3t1, ML.c3t2, ML.c3d1, ML.c3d2, ML.c3d3, Int.reduceAdd, ML.asgR_some, ML.g_eqPair, ML.g_nePair, Nat.reduceBEq, Nat.reduceSub, Nat.reduceDiv, ML.gk_fz, ML.pa_fz, ML.rk_fz, ML.fo_fz, ML.e_compW, ML.KCW_ok, ML.e_ownAt, ML.ownO2_s, ML.gk_go, ML.pa_go, ML.fo_go, $ts,*])
namespace C
open PySem L2 ML U
section
variable {t : Tg} {tt : TM} {te : EM} {ρ0 : LEnv} {η : RH} {l : List Nat}
theorem compN (g : Nat → P) (h : ∀ v ∈ l, stC tt te (tgS t (.p (.int (v : Nat))) ρ0) η = .ok (some (g v)) η) : compL t tt te ρ0 (nL l) η = .ok (l.map g) η := by
  rw [nL_map]
  exact compMap g h
end
theorem g_addIS {i j : Int} : addIS (.int i) (.int j) = some (.int (i + j)) := rfl
def Sh (x : P) : Prop := (∃ xs, x = .tup xs ∧ (∀ y ∈ xs, plainP y = true) ∧ xs.length ≤ 1000) ∨ (plainP x = true ∧ isK "tuple" x = false)
theorem Sh.plain {x : P} (h : Sh x) : plainP x = true := by
  rcases h with ⟨xs, rfl, _⟩ | h
  · rfl
  · exact h.1
theorem nL_plain {l : List Nat} : ∀ y ∈ nL l, plainP y = true := fun y hy => by
  rw [nL_map] at hy
  obtain ⟨v, _, rfl⟩ := List.mem_map.mp hy
  rfl
theorem Sh.nL {l : List Nat} (h : l.length ≤ 1000) : Sh (.tup (nL l)) := .inl ⟨_, rfl, nL_plain, by rw [nL_len]; exact h⟩
structure GoodW (k : Nat) (ws : List Nat) : Prop where
  len : ws.length = k
  b : ∀ w ∈ ws, 1 ≤ w ∧ w ≤ 3
theorem wishes_run {ds : List Int} {at' k : Nat} (hk : k ≤ 1000) : ∃ ws at2, GoodW k ws ∧ F__law_wishes_139d [.ref 0, .p (.int (k : Nat))] [hand ds at'] = .ok (.p (.tup (nL ws))) [hand ds at2] := by
  unfold F__law_wishes_139d B__law_wishes_139d
  simp_arith [g_rngN (k := k) (by omega)]
  rw [KComp_ok (small (by rw [range_len]; omega))]
  generalize hc1 : compL _ _ _ _ _ _ = r
  obtain ⟨ws, at2, e2, h1, b1⟩ := comp_draw (ds := ds) (at' := at') (t := .nm 2) (tt := yesT) (te := op2 addG (cM (.int 1)) (callL (arityS 2 F__law_take_e5cf) (consA (nameM 0) (consA (op2 gIx (opA flG (consA (cM (.int 3)) (consA (cM (.int 2)) nilA))) (callL (arityS 2 F__law_take_e5cf) (consA (nameM 0) (consA (cM (.int 2)) nilA)))) nilA))))
    (ρ0 := [some (D.ref 0), some (D.p (P.int (k : Nat))), none]) (xs := rangeP 0 k) (enc := fun n : Nat => P.int (n : Nat)) (fun _ v => 1 ≤ v ∧ v ≤ 3) (by
    intro i x at1 hx
    obtain ⟨rfl, hi⟩ := range_get hx
    obtain ⟨w, hw, ew⟩ := take_run (ds := ds) (at' := at1) (m := 2) (by decide)
    have ew : F__law_take_e5cf [.ref 0, .p (.int 2)] [hand ds at1] = _ := ew
    have ep : atI [P.int 3, .int 2] ((w : Nat) : Int) = some (.int (([3, 2] : List Nat)[w] : Nat)) := nL_at (l := [3, 2]) hw
    have hp : 2 ≤ ([3, 2] : List Nat)[w] ∧ ([3, 2] : List Nat)[w] ≤ 3 := by
      have := List.getElem_mem (l := ([3, 2] : List Nat)) hw
      simp only [List.mem_cons, List.not_mem_nil, or_false] at this
      omega
    generalize ([3, 2] : List Nat)[w] = q at ep hp
    obtain ⟨u, hu, eu⟩ := take_run (ds := ds) (at' := at1 + 1) (m := q) (by omega)
    refine ⟨u + 1, at1 + 1 + 1, by omega, ?_⟩
    simp_arith [ew, ep, eu, cast1'])
  rw [e2] at hc1
  subst hc1
  rw [range_len] at h1
  simp_arith []
  refine ⟨ws, at2, ⟨h1, fun w hw => ?_⟩, by simp only [nL_map]⟩
  obtain ⟨i, hi⟩ := List.mem_iff_getElem?.mp hw
  exact b1 i w hi
def badAt (n : Nat) (xs : List P) (i : Nat) : Bool := !ift (xs[i]?.getD .non) 0 ((n : Int) - 1) || (decide (0 < i) && (match xs[i - 1]?.getD .non, xs[i]?.getD .non with
  | .int a, .int b => decide (b ≤ a)
  | _, _ => true))
end C
set_option Elab.async false
set_option linter.all false
set_option maxRecDepth 100000
namespace C
open PySem L2 ML U
end C
set_option Elab.async false
set_option linter.all false
set_option maxRecDepth 100000
set_option maxHeartbeats 1000000
local macro_rules | `(tactic| simp_arith [$ts,*]) => `(tactic| simp only [ML.e_txt, ML.KTx_ok, ML.e_iso, ML.g_iso_t, ML.g_iso_n, ML.g_iso_b, ML.g_iso_i, ML.g_iso_s, ML.g_iso_u, ML.g_iso_l, ML.e_name, ML.e_look, ML.e_c, ML.e_ofO, ML.e_ofOn, ML.e_ofB, ML.e_ofL, ML.app1_some, ML.app2_some, ML.e_op2, ML.K2_ok, ML.K2b_ok, ML.e_op1, ML.K1_ok, ML.e_view, ML.e_viewO, ML.e_nil, ML.e_cons, ML.KC_ok, ML.KC2_ok, ML.e_asPs0, ML.e_asPs, ML.consO_some, ML.e_views0, ML.e_views, ML.consOO_some, ML.appL_some, ML.e_opA, ML.KA_ok, ML.e_opV, ML.KV_ok, ML.e_tst, ML.KT_ok, ML.e_asB, ML.e_and, ML.e_or, ML.e_not, ML.KAnd_t, ML.KAnd_f, ML.KOr_t, ML.KOr_f, ML.KNot_ok, ML.e_yes, ML.e_andV, ML.e_notV, ML.KAndV_t, ML.KAndV_f, ML.KNotV_ok, ML.e_chain, ML.KCh_ok, ML.KCh2_ok, ML.KChB_t, ML.KChB_f, ML.KCh3_ok, ML.e_isi, ML.KIsi_ok, ML.e_call, ML.KCall_ok, ML.callR_some, ML.retR_ok, ML.retR_ex, ML.e_mth, ML.KM_ok, ML.KM1_t, ML.KM2_ok, ML.mthR_some, ML.tyO_some, ML.e_own, ML.ownO_some, ML.e_isLs, ML.e_isLr, ML.e_ls, ML.KLs_ok, ML.e_set, ML.KSet_ok, ML.KSet_ex, ML.e_ret, ML.KRet_ok, ML.KRet_ex, ML.e_exp, ML.KExp_ok, ML.KExp_ex, ML.e_asg, ML.KAsg_ok, ML.e_aug, ML.e_if, ML.KIfS_t, ML.KIfS_f, ML.e_seq, ML.KSeq_nx, ML.KSeq_rt, ML.KSeq_ct, ML.KSeq_bk, ML.KSeq_ex, ML.e_pass, ML.e_cnt, ML.e_sto, ML.KSto_ok, ML.KSto2_ok, ML.KSto3_ok, ML.stoR_some, ML.e_iter, ML.KIt_ok, ML.seq_fl, ML.seq_tup, ML.appLL_some, ML.e_itA, ML.KItA_ok, ML.e_for, ML.KFor_ok, ML.forB_some, ML.forK_nx, ML.forK_ct, ML.forK_bk, ML.forK_rt, ML.e_comp, ML.cmpR_ok, ML.e_compO, ML.cmpRO_ok, ML.compB_some, ML.compT_t, ML.compT_f, ML.compE_ok, ML.cons1_ok, ML.e_tgn, ML.e_tgt, ML.e_tgs0, ML.e_tgs, ML.tgK_some, ML.e_fnP, ML.fnR_nx, ML.fnR_rt, ML.fnR_ex, ML.retP_p, ML.e_fnS, ML.fnRS_nx, ML.fnRS_rt, ML.fnRS_ex, ML.g_addI, ML.g_subI, ML.g_negI, ML.g_lt, ML.g_le, ML.g_gt, ML.g_ge, ML.g_int, ML.g_lenf, ML.g_lent, ML.g_tupf, ML.g_tupt, ML.g_isN, ML.g_ixf, ML.g_ixt, ML.g_en, ML.g_ent, ML.ar0, ML.ar1, ML.ar2, ML.ar3, ML.ar4, ML.ar5, ML.as0, ML.as1, ML.as2, ML.as3, ML.as4, ML.as5, ML.tp60_0, ML.tp60_1, ML.tp60_2, ML.tp60_3, ML.tp60_4, ML.tp60_5, ML.fl60_0, ML.fl60_1, ML.fl60_2, ML.fl60_3, ML.fl60_4, ML.ls60_0, ML.ls60_1, ML.ls60_2, ML.ls60_3, ML.look_n, ML.at0, ML.at1, ML.at2, ML.startP_eq, ML.startD_eq, ML.li_set0, ML.li_setS, ML.li_get0, ML.li_getS, ML.li_map0, ML.li_mapS, ML.li_len0, ML.li_lenS, ML.li_app0, ML.li_appS, ML.li_rep0, ML.li_repS, ML.bo_nt, ML.bo_nf, ML.de_t, ML.de_f, ML.wi0, ML.wiS, ML.stB_some, ML.After_nx, ML.After_ct, ML.After_bk, ML.After_rt, ML.After_ex, ML.stC_some, ML.stC1_t, ML.stC1_f, ML.stC2_ok, ML.Aft_ok, ML.addO_s, ML.addO_n, ML.g_pow18, ML.g_abs, Nat.zero_add, Nat.reduceAdd, true_and, ML.iL_snoc, ML.iL_set, ML.iL_len, ML.g_mod, ML.g_fdiv, ML.g_mulR, ML.g_mulL, ML.mod_small, ML.e_sto1, ML.stoK_some, ML.stoG_ls, ML.setO_some, ML.retP_self, ML.retP1_ls, Int.reduceLT, Int.reduceLE, Int.reduceNeg, Nat.reduceLT, Nat.reduceLeDiff, and_self, Int.zero_add, Nat.add_zero, ML.e_viewr', ML.is_tuple_int, ML.is_tuple_bl, ML.is_tuple_str, ML.is_tuple_tup, ML.is_tuple_fl, ML.is_tuple_non, ML.is_list_int, ML.is_list_bl, ML.is_list_str, ML.is_list_tup, ML.is_list_fl, ML.is_list_non, ML.is_int_int, ML.is_int_bl, ML.is_int_str, ML.is_int_tup, ML.is_int_fl, ML.is_int_non, ML.is_bool_int, ML.is_bool_bl, ML.is_bool_str, ML.is_bool_tup, ML.is_bool_fl, ML.is_bool_non, ML.is_str_int, ML.is_str_bl, ML.is_str_str, ML.is_str_tup, ML.is_str_fl, ML.is_str_non, ML.g_eqI, ML.g_neI, ML.g_eqB, ML.g_neB, ML.nn_int, ML.nn_bl, ML.nn_str, ML.nn_tup, ML.nn_fl, ML.nn_non, eq_self, reduceCtorEq, if_true, if_false, Int.reduceEq, ML.e_raise, ML.KRaise_ok, ML.raiseR_1, ML.raiseR_2, ML.ixL_hit, ML.part_none, ML.part_some, ML.KPart_ok, ML.partR_int, ML.e_sl, ML.KSl_ok, ML.KSl2_ok, ML.KSl3_ok, ML.cutG_tup, ML.cutG_fl, ML.nc0, ML.nc1, ML.nc2, ML.nc3, ML.nc4, ML.nc5, ML.nc6, ML.nc7, ML.nc8, ML.nc9, ML.nc10, ML.e_callL, ML.KCL_ok, ML.e_locR, ML.locI_t, ML.rf_nil, ML.rf_ref, ML.rf_p, ML.rn_nil, ML.rn_ref, ML.rn_p, ML.nd0, ML.nd1, ML.ga_nil, ML.ga_cons, ML.gk_ls, ML.gk_dc, ML.gk_dt, ML.gk_hd, ML.lk_ok, ML.lk_ex, ML.le_some, ML.pa_nil, ML.pa_ls, ML.pa_dc, ML.pa_dt, ML.pa_hd, ML.lo_p, ML.lo_ref, ML.rk_some, ML.rk_ls, ML.rk_dc, ML.rk_dt, ML.e_gc, ML.gc_nx, ML.gc_ct, ML.gc_rt, ML.gc_bk, ML.gc_ex, ML.mk_nil, ML.mk_t, ML.mk_f, ML.tp_nil, ML.tp_none, ML.tp_p, ML.tp_xv, ML.tp_ref, ML.e_cut, ML.cut_t, ML.tk_0, ML.tk_nil, ML.tk_S, ML.al_nil, ML.al_cons, ML.fo_ls, ML.fo_dc, ML.fo_dt, ML.fo_hd, ML.bo_tt, ML.mx_def, ML.e_att, ML.KAtt_ok, ML.attR_fi, ML.ixP_some, ML.attR_ref, ML.lkR_s, ML.fl_hit, ML.e_isi2, ML.mkK_ex, ML.mkI_s, ML.e_attS, ML.KAtS_ok, ML.KAtS2_ok, ML.atSR_s, ML.e_attO, ML.attO2_s, ML.attO3_t, ML.ocL_hit, ML.putD_nil, ML.ixL_miss, ML.fo_in, ML.cut_f, ML.bo_ft, ML.is2_int, ML.is2_tup, ML.is2_fl, ML.is2_non, ML.fl60_5, ML.fl60_6, ML.fl60_7, ML.fl60_8, ML.fl60_9, ML.fl60_10, ML.fl60_11, ML.fl60_12, ML.tp60_6, ML.tp60_7, ML.c3t0, ML.c3t1, ML.c3t2, ML.c3d1, ML.c3d2, ML.c3d3, Int.reduceAdd, ML.asgR_some, ML.g_eqPair, ML.g_nePair, Nat.reduceBEq, Nat.reduceSub, Nat.reduceDiv, ML.gk_fz, ML.pa_fz, ML.rk_fz, ML.fo_fz, ML.e_compW, ML.KCW_ok, ML.e_ownAt, ML.ownO2_s, ML.gk_go, ML.pa_go, ML.fo_go, ML.KNo2_ok, ML.KNo2_r, $ts,*])
namespace TX
open PySem L2 ML U C TL
def Asc (l : List Nat) : Prop := ∀ a ∈ l, a < 1000
theorem Asc.mono {l m : List Nat} (h : Asc l) (s : ∀ a ∈ m, a ∈ l) : Asc m := fun a ha => h a (s a ha)
theorem Asc.app {l m : List Nat} (h : Asc l) (g : Asc m) : Asc (l ++ m) := fun a ha => by
  rcases List.mem_append.mp ha with h' | h'
  · exact h a h'
  · exact g a h'
theorem asc_num {n : Nat} : Asc (numL n) := fun a ha => by have := numL_digits n a ha; omega
theorem ok_tx {l : List Nat} (h : Asc l) : okP (.str (tx l)) = true := by
  unfold okP noFi toPy SeqAt.shaped
  have h1 : PyData.strOk (tx l) = true := by
    unfold PyData.strOk tx
    rw [List.all_toArray, List.all_eq_true]
    intro a ha
    have := h a ha
    exact decide_eq_true (by omega)
  have h2 : PyData.canLay0 (.str (tx l)) = true := by unfold PyData.canLay0; exact h1
  rw [h2]
  unfold PyData.depth
  rfl
theorem okN_tx {l : List Nat} (h : Asc l) : okN 1 (.str (tx l)) := okN_str (ok_tx h)
theorem lk_tx {l : List Nat} {n : Nat} (h : Asc l) : lk (n + 1) (.str (tx l)) := ok_tx h
theorem beq_tx {a b : List Nat} : (tx a == tx b) = decide (a = b) := by
  by_cases h : a = b
  · rw [h]; simp
  · rw [decide_eq_false h]
    exact beq_eq_false_iff_ne.mpr fun e => h (tx_inj e)
theorem eq_tx {a b : List Nat} (ha : Asc a) (hb : Asc b) : eqG false (.str (tx a)) (.str (tx b)) = some (.bl (decide (a = b))) := by
  rw [eqg_t (okN_tx ha) (okN_tx hb), eqv_str, beq_tx]
theorem ne_tx {a b : List Nat} (ha : Asc a) (hb : Asc b) : eqG true (.str (tx a)) (.str (tx b)) = some (.bl (!decide (a = b))) := by
  rw [neg_t (okN_tx ha) (okN_tx hb), eqv_str, beq_tx]
theorem len_tx {l : List Nat} (h : l.length ≤ 1000000) : lenG [.str (tx l)] = some (.int (l.length : Nat)) := by
  show (if (tx l).length ≤ sizeLine then some (P.int ((tx l).length : Nat)) else none) = _
  rw [tx_len, if_pos (by rw [sizeLine_eq]; omega)]
theorem add_tx {a b : List Nat} (h : a.length + b.length ≤ 1000000) : addG (.str (tx a)) (.str (tx b)) = some (.str (tx (a ++ b))) := by
  show ((addI (.str (tx a)) (.str (tx b))).or (addS (.str (tx a)) (.str (tx b)))).or _ = _
  rw [show addI (.str (tx a)) (.str (tx b)) = none from rfl, show addS (.str (tx a)) (.str (tx b)) = some (.str (tx a ++ tx b)) from if_pos (by rw [tx_len, tx_len, sizeLine_eq]; omega), tx_app]
  rfl
theorem split_g {c : Nat} {l : List Nat} (hc : c < 256) (h : l.length ≤ 1000000) : splitT (tx l) (.str (tx [c])) = some (.fl ((cutL c l).map fun w => .str (tx w))) := by
  rw [g_split (by rfl) (by rw [tx_len]; exact h), split_tx hc, List.map_map]
  rfl
theorem join_g {c : List Nat} {ws : List (List Nat)} (h : (ws.map List.length).sum + ws.length * c.length ≤ 16777216) : joinT (tx c) (.fl (ws.map fun w => .str (tx w))) = some (.str (tx (joinL c ws))) := by
  have : (ws.map fun w => P.str (tx w)) = (ws.map tx).map .str := by rw [List.map_map]; rfl
  rw [this, g_joinF (by rw [List.map_map, List.length_map, tx_len]; exact (show ((ws.map fun w => (tx w).length).sum + ws.length * c.length ≤ 16777216) by simp only [tx_len]; exact h)), join_tx]
theorem seq_tx {l : List Nat} : seqP (.str (tx l)) = some (l.map fun c => .str (tx [c])) := rfl
theorem ix_tx {l : List Nat} {i : Nat} (h : i < l.length) (hl : l.length ≤ 1000000) : gIx (.str (tx l)) (.int (i : Nat)) = some (.str (tx [l[i]])) := by
  show (if (tx l).length ≤ sizeLine then (atI (tx l).cps.toList (i : Nat)).map fun c => P.str ⟨#[c]⟩ else none) = _
  rw [if_pos (by rw [tx_len, sizeLine_eq]; omega), cps_tx, atI_nat (List.getElem?_eq_getElem h)]
  rfl
theorem str_n {n : Nat} (h : n ≤ 200) : strG [.int (n : Nat)] = some (.str (tx (numL n))) := by
  rw [← num_txt]
  exact g_str (by omega)
theorem l_comma : Str.ofString "," = tx [44] := lit rfl
theorem l_blank : Str.ofString " " = tx [32] := lit rfl
theorem l_lf : Str.ofString "\n" = tx [10] := lit rfl
theorem l_0 : Str.ofString "0" = tx [48] := lit rfl
theorem l_piece : Str.ofString "piece" = tx [112, 105, 101, 99, 101] := lit rfl
theorem l_figs : Str.ofString "0123456789" = tx [48, 49, 50, 51, 52, 53, 54, 55, 56, 57] := lit rfl
theorem fig_g {i : Nat} : inSG false (.str (tx [i])) (.str (tx [48, 49, 50, 51, 52, 53, 54, 55, 56, 57])) = some (.bl (isFig i)) := by
  show some (P.bl (if false = true then _ else decide (i ∈ (tx [48, 49, 50, 51, 52, 53, 54, 55, 56, 57]).cps.toList))) = _
  rw [if_neg Bool.false_ne_true, cps_tx]
  congr 2
  unfold isFig
  rw [← Bool.decide_and, decide_eq_decide]
  simp only [List.mem_cons, List.not_mem_nil, or_false]
  omega
def toldI (w : List Nat) : Int := match told w with
  | some n => (n : Nat)
  | none => -1
theorem told_no {w : List Nat} (h : w.length = 0 ∨ 2 < w.length) : told w = none := by
  match w, h with
  | [], _ => rfl
  | [a], h => simp at h
  | [a, b], h => simp at h
  | _ :: _ :: _ :: _, _ => rfl
theorem integer_told_run {w : List Nat} (hl : w.length ≤ 100000) (ha : Asc w) : F_integer_told_7ae3 [.str (tx w)] = .ok (.int (toldI w)) := by
  have hlen := len_tx (l := w) (by omega)
  have figs : ∀ {t : TM} {m : EM} {ρ : LEnv} {η : RH}, (∀ c ∈ w, stC t m (tgS (.nm 1) (.p (.str (tx [c]))) ρ) η = .ok (some (.bl (isFig c))) η) → compL (.nm 1) t m ρ (w.map fun c => P.str (tx [c])) η = .ok (w.map fun c => .bl (isFig c)) η := fun h => compMap (enc := fun c => P.str (tx [c])) (fun c => P.bl (isFig c)) h
  unfold F_integer_told_7ae3 B_integer_told_7ae3
  by_cases h0 : 1 ≤ w.length
  · by_cases h2 : w.length ≤ 2
    · have c1 : (1 : Int) ≤ ((w.length : Nat) : Int) := by omega
      have c2 : ((w.length : Nat) : Int) ≤ 2 := by omega
      simp_arith [hlen, c1, c2, decide_true, l_figs, seq_tx]
      rw [KComp_ok (small (by rw [List.length_map]; omega)), figs (by
        intro c hc
        simp_arith [fig_g])]
      have e1 : w = [w[0]] ∨ ∃ a b, w = [a, b] := by
        match w, h0, h2 with
        | [a], _, _ => exact .inl rfl
        | [a, b], _, _ => exact .inr ⟨a, b, rfl⟩
        | [], h0, _ => simp at h0
        | _ :: _ :: _ :: _, _, h2 => simp at h2
      rcases e1 with e1 | ⟨a, b, e1⟩
      · generalize w[0] = a at e1
        subst e1
        have g0 : allG [.fl [P.bl (isFig a)]] = some (.bl ([a].all isFig)) := g_all isFig [a]
        cases hf : isFig a with
        | false =>
          have : toldI [a] = -1 := by unfold toldI told; simp [hf]
          have g1 : allG [.fl [P.bl (isFig a)]] = some (.bl false) := by rw [g0]; simp [hf]
          simp_arith [g1, this]
        | true =>
          have ht : told [a] = some (a - 48) := by unfold told; simp [hf]
          have : toldI [a] = ((a - 48 : Nat) : Int) := by unfold toldI; rw [ht]
          have g1 : allG [.fl [P.bl (isFig a)]] = some (.bl true) := by rw [g0]; simp [hf]
          have c3 : ¬ ((1 : Nat) : Int) > 1 := by decide
          have gi := g_intS (int_told ht) (by rw [tx_len]; simp)
          simp_arith [g1, this, hlen, List.length_cons, List.length_nil, c3, decide_false, gi]
      · subst e1
        have g0 : allG [.fl [P.bl (isFig a), P.bl (isFig b)]] = some (.bl ([a, b].all isFig)) := g_all isFig [a, b]
        have g0 : allG [.fl [P.bl (isFig a), P.bl (isFig b)]] = some (.bl (isFig a && isFig b)) := by rw [g0]; simp
        cases hf : (isFig a && isFig b) with
        | false =>
          have : toldI [a, b] = -1 := by
            unfold toldI told
            have : ¬ (isFig a = true ∧ isFig b = true ∧ a ≠ 48) := fun h => by rw [h.1, h.2.1] at hf; cases hf
            simp only [if_neg this]
          have g1 : allG [.fl [P.bl (isFig a), P.bl (isFig b)]] = some (.bl false) := by rw [g0, hf]
          simp_arith [g1, this]
        | true =>
          have g1 : allG [.fl [P.bl (isFig a), P.bl (isFig b)]] = some (.bl true) := by rw [g0, hf]
          rw [Bool.and_eq_true] at hf
          have c3 : ((2 : Nat) : Int) > 1 := by decide
          have gx := ix_tx (l := [a, b]) (i := 0) (by simp) (by simp)
          have gx : gIx (.str (tx [a, b])) (.int 0) = some (.str (tx [a])) := gx
          have ea : Asc [a] := ha.mono fun x hx => by simp at hx; simp [hx]
          have e0 := eq_tx (a := [a]) (b := [48]) ea (by unfold Asc; decide)
          by_cases h48 : a = 48
          · have : toldI [a, b] = -1 := by
              unfold toldI told
              have : ¬ (isFig a = true ∧ isFig b = true ∧ a ≠ 48) := fun h => h.2.2 h48
              simp only [if_neg this]
            rw [decide_eq_true (by rw [h48])] at e0
            simp_arith [g1, this, hlen, List.length_cons, List.length_nil, c3, decide_true, gx, l_0, e0, Bool.and_self, Bool.not_true]
          · have ht : told [a, b] = some ((a - 48) * 10 + (b - 48)) := by
              unfold told
              simp only [if_pos (show isFig a = true ∧ isFig b = true ∧ a ≠ 48 from ⟨hf.1, hf.2, h48⟩)]
            have : toldI [a, b] = (((a - 48) * 10 + (b - 48) : Nat) : Int) := by unfold toldI; rw [ht]
            rw [decide_eq_false (by simp [h48])] at e0
            have gi := g_intS (int_told ht) (by rw [tx_len]; simp)
            simp_arith [g1, this, hlen, List.length_cons, List.length_nil, c3, decide_true, gx, l_0, e0, gi, Bool.and_self, Bool.not_true]
    · have c1 : (1 : Int) ≤ ((w.length : Nat) : Int) := by omega
      have c2 : ¬ ((w.length : Nat) : Int) ≤ 2 := by omega
      have : toldI w = -1 := by
        unfold toldI
        rw [told_no (by omega)]
      simp_arith [hlen, c1, c2, decide_true, decide_false, this]
  · have c1 : ¬ (1 : Int) ≤ ((w.length : Nat) : Int) := by omega
    have : toldI w = -1 := by
      unfold toldI
      rw [told_no (by omega)]
    simp_arith [hlen, c1, decide_false, this]
theorem asc_cut {c : Nat} {l w : List Nat} (ha : Asc l) (h : w ∈ cutL c l) : Asc w := ha.mono (cut_sub h)
def upB (xs : List Int) : Bool := (List.range (xs.length - 1)).all fun k => decide (xs[k]?.getD 0 < xs[k + 1]?.getD 0)
def lotT (n : Nat) (w : List Nat) : Option (List Nat) :=
  if ((cutL 44 w).map toldI).all (fun x => decide (0 ≤ x) && decide (x < n)) = true ∧ upB ((cutL 44 w).map toldI) = true then some (((cutL 44 w).map toldI).map Int.toNat) else none
def lotP : Option (List Nat) → P
  | some l => .tup (nL l)
  | none => .non
theorem iL_toNat {xs : List Int} (h : ∀ x ∈ xs, 0 ≤ x) : iL xs = nL (xs.map Int.toNat) := by
  unfold iL
  rw [nL_map, List.map_map]
  exact List.map_congr_left fun x hx => by
    show P.int x = P.int ((x.toNat : Nat) : Int)
    rw [Int.toNat_of_nonneg (h x hx)]
theorem words_run {c : Nat} {w : List Nat} {t : TM} {m : EM} {i : Nat} {ρ : LEnv} {η : RH} (h : ∀ v ∈ cutL c w, stC t m (tgS (.nm i) (.p (.str (tx v))) ρ) η = .ok (some (.int (toldI v))) η) :
    compL (.nm i) t m ρ ((cutL c w).map fun v => P.str (tx v)) η = .ok (iL ((cutL c w).map toldI)) η := by
  have := compMap (t := .nm i) (enc := fun v => P.str (tx v)) (fun v => P.int (toldI v)) h
  rw [this]
  unfold iL
  rw [List.map_map]
  rfl
theorem lot_told_run {n : Nat} {w : List Nat} (hl : w.length ≤ 100000) (ha : Asc w) : F_lot_told_47c5 [.str (tx w), .int (n : Nat)] = .ok (lotP (lotT n w)) := by
  have hs := split_g (c := 44) (l := w) (by decide) (by omega)
  have hm := cut_many (c := 44) (l := w)
  have hn := cut_ne (c := 44) (l := w)
  unfold F_lot_told_47c5 B_lot_told_47c5
  simp_arith [l_comma, hs]
  rw [KComp_ok (small (by rw [List.length_map]; omega)), words_run (by
    intro v hv
    have hv2 := cut_short hv
    simp_arith [integer_told_run (w := v) (by omega) (asc_cut ha hv)])]
  unfold lotT
  have hx0 : 0 < ((cutL 44 w).map toldI).length := by rw [List.length_map]; exact List.length_pos_iff.mpr hn
  have hx1 : ((cutL 44 w).map toldI).length ≤ 200000 := by rw [List.length_map]; omega
  generalize (cutL 44 w).map toldI = xs at hx0 hx1
  simp_arith []
  rw [KComp_ok (small (by rw [iL_len]; omega)), show iL xs = xs.map P.int from rfl, compMap (enc := P.int) (fun x => P.bl (decide (0 ≤ x) && decide (x < (n : Int)))) (by
    intro x hx
    by_cases h1 : 0 ≤ x
    · by_cases h2 : x < (n : Int)
      · simp_arith [h1, h2, decide_true, Bool.and_self]
      · simp_arith [h1, h2, decide_true, decide_false, Bool.and_false]
    · simp_arith [h1, decide_false, Bool.false_and])]
  have g1 := g_all (fun x : Int => decide (0 ≤ x) && decide (x < (n : Int))) xs
  cases c1 : xs.all (fun x => decide (0 ≤ x) && decide (x < (n : Int))) with
  | false =>
    rw [c1] at g1
    simp_arith [g1, if_neg (show ¬ (false = true ∧ upB xs = true) from fun h => Bool.false_ne_true h.1)]
    rfl
  | true =>
    rw [c1] at g1
    have hr : rngG2 [.int 1, .int ((xs.length : Nat) : Int)] = some (rangeP 1 (xs.length - 1)) := by
      rw [g_rng2 ⟨by decide, by decide, by omega, by omega⟩]
      congr 2
      omega
    have e0 : xs.map P.int = iL xs := rfl
    simp_arith [g1, iL_len, hr, e0]
    rw [KComp_ok (small (by rw [range_len]; omega)), show rangeP 1 (xs.length - 1) = (List.range (xs.length - 1)).map fun i : Nat => P.int (1 + (i : Nat)) from rfl, compMap (enc := fun i : Nat => P.int (1 + (i : Nat))) (fun k => P.bl (decide (xs[k]?.getD 0 < xs[k + 1]?.getD 0))) (by
      intro k hk
      have hk := List.mem_range.mp hk
      have z1 : (1 : Int) + ((k : Nat) : Int) - 1 = ((k : Nat) : Int) := by omega
      have z2 : (1 : Int) + ((k : Nat) : Int) = ((k + 1 : Nat) : Int) := by omega
      have a1 : atI (iL xs) ((k : Nat) : Int) = some (.int (xs[k]?.getD 0)) := by
        rw [List.getElem?_eq_getElem (show k < xs.length by omega)]
        exact atI_nat (by unfold iL; rw [List.getElem?_map, List.getElem?_eq_getElem (show k < xs.length by omega)]; rfl)
      have a2 : atI (iL xs) ((k + 1 : Nat) : Int) = some (.int (xs[k + 1]?.getD 0)) := by
        rw [List.getElem?_eq_getElem (show k + 1 < xs.length by omega)]
        exact atI_nat (by unfold iL; rw [List.getElem?_map, List.getElem?_eq_getElem (show k + 1 < xs.length by omega)]; rfl)
      have z3 : ((k + 1 : Nat) : Int) - 1 = ((k : Nat) : Int) := by omega
      simp_arith [z1, z2, z3, a1, a2])]
    have g2 := g_all (fun k : Nat => decide (xs[k]?.getD 0 < xs[k + 1]?.getD 0)) (List.range (xs.length - 1))
    cases c2 : upB xs with
    | false =>
      unfold upB at c2
      rw [c2] at g2
      simp_arith [g2, if_neg (show ¬ (true = true ∧ false = true) from fun h => Bool.false_ne_true h.2)]
      rfl
    | true =>
      unfold upB at c2
      rw [c2] at g2
      have e1 : iL xs = nL (xs.map Int.toNat) := iL_toNat fun x hx => by
        have := List.all_eq_true.mp c1 x hx
        simp at this
        exact this.1
      have e2 : tupleG [.fl (iL xs)] = some (.tup (iL xs)) := rfl
      simp_arith [g2, e2, if_pos (show true = true ∧ true = true from ⟨rfl, rfl⟩)]
      rw [e1]
      rfl
def numW (ns : List Nat) : List (List Nat) := ns.map numL
theorem numW_sum {ns : List Nat} (h : ∀ v ∈ ns, v ≤ 99) : ((numW ns).map List.length).sum ≤ 2 * ns.length := by
  unfold numW
  induction ns with
  | nil => simp
  | cons a t ih =>
    have h1 := num_len (h a List.mem_cons_self)
    have h2 := ih fun v hv => h v (List.mem_cons_of_mem _ hv)
    rw [List.map_cons, List.map_cons, List.sum_cons, List.length_cons]
    omega
theorem strs_run {ns : List Nat} {t : TM} {m : EM} {i : Nat} {ρ : LEnv} {η : RH} (h : ∀ v ∈ ns, stC t m (tgS (.nm i) (.p (.int (v : Nat))) ρ) η = .ok (some (.str (tx (numL v)))) η) :
    compL (.nm i) t m ρ (nL ns) η = .ok ((numW ns).map fun w => .str (tx w)) η := by
  rw [compN (fun v => .str (tx (numL v))) h]
  unfold numW
  rw [List.map_map]
  rfl
theorem lot_text_run {ns : List Nat} (h : ∀ v ∈ ns, v ≤ 99) (hl : ns.length ≤ 10000) : F_lot_text_1333 [.tup (nL ns)] = .ok (.str (tx (joinL [44] (numW ns)))) := by
  have hs := numW_sum h
  have hw : (numW ns).length = ns.length := List.length_map ..
  have hj := join_g (c := [44]) (ws := numW ns) (by rw [hw]; simp only [List.length_cons, List.length_nil]; omega)
  unfold F_lot_text_1333 B_lot_text_1333
  simp_arith [l_comma]
  rw [KComp_ok (small (by rw [nL_len]; omega)), strs_run (by
    intro v hv
    simp_arith [str_n (n := v) (by have := h v hv; omega)])]
  simp_arith [hj]
def posL (ls : List (List Nat)) (k : Nat) : Nat := ((ls.take k).map fun w => w.length + 1).sum
theorem posL_succ {ls : List (List Nat)} {k : Nat} (h : k < ls.length) : posL ls (k + 1) = posL ls k + ls[k].length + 1 := by
  unfold posL
  rw [List.take_succ_eq_append_getElem h, List.map_append, List.sum_append]
  simp
  omega
theorem begins_run {ls : List (List Nat)} (hl : ls.length ≤ 100000) (hs : ∀ w ∈ ls, w.length ≤ 100000) : F_begins_a4ac [.fl (ls.map fun w => .str (tx w))] = .ok (.fl (nL ((List.range ls.length).map (posL ls)))) := by
  unfold F_begins_a4ac B_begins_a4ac
  simp_arith []
  generalize e : forL _ _ _ _ _ = r
  obtain ⟨ρ, η, rfl, ⟨q0, q3, rfl⟩, rfl⟩ := for_done e (fun i ρ η => (∃ q0 q3, ρ = [q0, some (.ref 0), some (.p (.int (posL ls i : Nat))), q3]) ∧ η = [.ls (nL ((List.range i).map (posL ls)))]) ⟨⟨_, _, rfl⟩, rfl⟩ (by
    rintro i x ρ η hx ⟨⟨q0, q3, rfl⟩, rfl⟩
    rw [List.getElem?_map] at hx
    obtain ⟨w, hw, rfl⟩ := Option.map_eq_some_iff.mp hx
    have hwl := hs w (List.mem_of_getElem? hw)
    have hi := (List.getElem?_eq_some_iff.mp hw)
    obtain ⟨hi, hwe⟩ := hi
    have zA : (nL ((List.range i).map (posL ls))).length < sizeLine := small' (by rw [nL_len]; simp; omega)
    have sA : nL ((List.range i).map (posL ls)) ++ [P.int (posL ls i : Nat)] = nL ((List.range (i + 1)).map (posL ls)) := by
      rw [List.range_succ, List.map_append, nL_map, nL_map, List.map_append]; rfl
    have hp := posL_succ hi
    rw [hwe] at hp
    have z : ((posL ls i : Nat) : Int) + (((w.length : Nat) : Int) + 1) = ((posL ls (i + 1) : Nat) : Int) := by omega
    have ga : addIS (.int (posL ls i : Nat)) (.int (((w.length : Nat) : Int) + 1)) = some (.int (posL ls (i + 1) : Nat)) := by rw [g_addIS, z]
    simp_arith [len_tx (l := w) (by omega), app_ls zA, sA, ga]
    exact ⟨⟨_, _, rfl⟩, by first | rfl | trivial⟩)
  clear e
  rw [List.length_map]
  simp_arith []
end TX
set_option Elab.async false
set_option linter.all false
set_option maxRecDepth 100000
set_option maxHeartbeats 1000000
namespace TX
open PySem L2 ML U C TL
def bdL (bs : List (Nat × Nat)) : List P := bs.map fun q => .tup [.int (q.1 : Nat), .int (q.2 : Nat)]
def inB (xs : List Int) (bs : List (Nat × Nat)) (k : Nat) : Bool := decide (((bs[k]?.getD (0, 0)).1 : Int) ≤ xs[k]?.getD 0) && decide (xs[k]?.getD 0 ≤ ((bs[k]?.getD (0, 0)).2 : Int))
def okB (xs : List Int) (bs : List (Nat × Nat)) : Bool := (List.range bs.length).all (inB xs bs)
def wordsV (line : List Nat) : List Int := (cutL 32 line).tail.map toldI
def numsT (line first : List Nat) (bs : List (Nat × Nat)) : Option (List Nat) :=
  if (cutL 32 line).headD [] = first ∧ (cutL 32 line).length = bs.length + 1 ∧ okB (wordsV line) bs = true then some ((wordsV line).map Int.toNat) else none
def numP : Option (List Nat) → P
  | some l => .fl (nL l)
  | none => .non
theorem numbers_run {line first : List Nat} {bs : List (Nat × Nat)} (hl : line.length ≤ 100000) (ha : Asc line) (hf : Asc first) (hb : bs.length ≤ 100) :
    F__numbers_6b34 [.str (tx line), .str (tx first), .fl (bdL bs)] = .ok (numP (numsT line first bs)) := by
  have hs := split_g (c := 32) (l := line) (by decide) (by omega)
  have hm := cut_many (c := 32) (l := line)
  have hn := cut_ne (c := 32) (l := line)
  have hp : 0 < (cutL 32 line).length := List.length_pos_iff.mpr hn
  have hh : (cutL 32 line).headD [] ∈ cutL 32 line := by rw [← cut_eta (c := 32) (l := line)]; exact List.mem_cons_self
  have h0 : atI ((cutL 32 line).map fun w => P.str (tx w)) 0 = some (.str (tx ((cutL 32 line).headD []))) := by
    have : ((cutL 32 line).map fun w => P.str (tx w))[0]? = some (.str (tx ((cutL 32 line).headD []))) := by
      rw [List.getElem?_map]
      cases h : cutL 32 line with
      | nil => exact absurd h hn
      | cons a t => rfl
    exact atI_nat (j := 0) this
  have e1 := ne_tx (a := (cutL 32 line).headD []) (b := first) (asc_cut ha hh) hf
  have e2 : eqG true (.int (((cutL 32 line).map fun w => P.str (tx w)).length : Nat)) (.int (((bdL bs).length : Nat) + 1)) = some (.bl (!decide ((cutL 32 line).length = bs.length + 1))) := by
    rw [neg_t okN_int okN_int, eqv_int]
    unfold bdL
    rw [List.length_map, List.length_map]
    congr 3
    exact decide_eq_decide.mpr ⟨fun h => by omega, fun h => by omega⟩
  have no : ¬ ((cutL 32 line).headD [] = first ∧ (cutL 32 line).length = bs.length + 1 ∧ okB (wordsV line) bs = true) → numsT line first bs = none := fun h => if_neg h
  unfold F__numbers_6b34 B__numbers_6b34
  simp_arith [l_blank, hs, h0, e1]
  by_cases c1 : (cutL 32 line).headD [] = first
  · by_cases c2 : (cutL 32 line).length = bs.length + 1
    · rw [decide_eq_true c2] at e2
      have hcut : cutP ((cutL 32 line).map fun w => P.str (tx w)) (some 1) none = (cutL 32 line).tail.map fun w => P.str (tx w) := by
        rw [cd1, ← List.map_drop, List.drop_one]
      simp_arith [e2, decide_eq_true c1, Bool.not_true, hcut]
      rw [KComp_ok (small (by rw [List.length_map, List.length_tail]; omega)), compMap (enc := fun w => P.str (tx w)) (fun w => P.int (toldI w)) (by
        intro v hv
        have hv : v ∈ cutL 32 line := List.mem_of_mem_tail hv
        have hv2 := cut_short hv
        simp_arith [integer_told_run (w := v) (by omega) (asc_cut ha hv)])]
      have ei : ((cutL 32 line).tail.map fun w => P.int (toldI w)) = iL (wordsV line) := by unfold iL wordsV; rw [List.map_map]; rfl
      have hwl : (wordsV line).length = bs.length := by unfold wordsV; rw [List.length_map, List.length_tail]; omega
      have hz : zipG [.fl (iL (wordsV line)), .fl (bdL bs)] = some (zipP (iL (wordsV line)) (bdL bs)) := rfl
      have hzl : (zipP (iL (wordsV line)) (bdL bs)).length = bs.length := by rw [zipP_len, iL_len, hwl]; unfold bdL; rw [List.length_map]; omega
      rw [ei]
      simp_arith [hz]
      generalize e : forL _ _ _ _ _ = r
      rcases for_end e (fun r => r = .rt (.p .non) [] ∧ okB (wordsV line) bs = false) (fun i ρ η => (∃ q0 q1 q2 q3 q5 q6 q7 q8, ρ = [q0, q1, q2, q3, some (.p (.fl (iL (wordsV line)))), q5, q6, q7, q8]) ∧ η = [] ∧ ∀ k, k < i → inB (wordsV line) bs k = true) ⟨⟨_, _, _, _, _, _, _, _, rfl⟩, rfl, fun k h => absurd h (by omega)⟩ (by
        rintro i x ρ η hx ⟨⟨q0, q1, q2, q3, q5, q6, q7, q8, rfl⟩, rfl, hi⟩
        have hil : i < bs.length := by rw [← hzl]; exact (List.getElem?_eq_some_iff.mp hx).1
        have hxe : x = .tup [.int ((wordsV line)[i]?.getD 0), .tup [.int ((bs[i]?.getD (0, 0)).1 : Nat), .int ((bs[i]?.getD (0, 0)).2 : Nat)]] := by
          have := zipP_get (iL (wordsV line)) (bdL bs) i (.int ((wordsV line)[i]?.getD 0)) (.tup [.int ((bs[i]?.getD (0, 0)).1 : Nat), .int ((bs[i]?.getD (0, 0)).2 : Nat)]) (by unfold iL; rw [List.getElem?_map, List.getElem?_eq_getElem (by omega)]; rfl) (by unfold bdL; rw [List.getElem?_map, List.getElem?_eq_getElem hil]; rfl)
          rw [this] at hx
          exact (Option.some.inj hx).symm
        subst hxe
        generalize hxv : (wordsV line)[i]?.getD 0 = v
        generalize hbv : bs[i]?.getD (0, 0) = b
        have fals : (((b.1 : Int) ≤ v ∧ v ≤ (b.2 : Int)) → False) → okB (wordsV line) bs = false := fun h => by
          unfold okB
          rw [List.all_eq_false]
          refine ⟨i, List.mem_range.mpr hil, ?_⟩
          unfold inB
          rw [hxv, hbv]
          simp
          intro h1
          exact Int.not_le.mp fun h2 => h ⟨h1, h2⟩
        by_cases d1 : (b.1 : Int) ≤ v
        · by_cases d2 : v ≤ (b.2 : Int)
          · simp_arith [d1, d2, decide_true]
            refine ⟨⟨_, _, _, _, _, _, _, _, rfl⟩, fun k hk => ?_⟩
            rcases Nat.lt_or_ge k i with h | h
            · exact hi k h
            · have : k = i := by omega
              subst this
              unfold inB
              rw [hxv, hbv, decide_eq_true d1, decide_eq_true d2]
              rfl
          · simp_arith [d1, d2, decide_true, decide_false]
            exact fals fun h => d2 h.2
        · simp_arith [d1, decide_false]
          exact fals fun h => d1 h.1) with ⟨rfl, hno⟩ | ⟨ρ, η, rfl, ⟨q0, q1, q2, q3, q5, q6, q7, q8, rfl⟩, rfl, hall⟩
      · clear e
        rw [no fun h => by rw [hno] at h; exact Bool.false_ne_true h.2.2]
        simp_arith []
        rfl
      · clear e
        rw [hzl] at hall
        have hok : okB (wordsV line) bs = true := by
          unfold okB
          rw [List.all_eq_true]
          exact fun k hk => hall k (List.mem_range.mp hk)
        have hnn : ∀ x ∈ wordsV line, 0 ≤ x := fun x hx => by
          obtain ⟨k, hk⟩ := List.mem_iff_getElem?.mp hx
          have hkl := (List.getElem?_eq_some_iff.mp hk).1
          have := hall k (by omega)
          unfold inB at this
          rw [hk] at this
          simp at this
          omega
        rw [show numsT line first bs = some ((wordsV line).map Int.toNat) from if_pos ⟨c1, c2, hok⟩]
        simp_arith []
        rw [iL_toNat hnn]
        rfl
    · rw [decide_eq_false c2] at e2
      rw [no fun h => c2 h.2.1]
      simp_arith [e2, decide_eq_true c1, Bool.not_true, Bool.not_false]
      rfl
  · rw [no fun h => c1 h.1]
    simp_arith [decide_eq_false c1, Bool.not_false]
    rfl
def pieceT (n : Nat) (line : List Nat) : Option (Nat × List Nat) := match cutL 32 line with
  | [a, b, c] => if a = [112, 105, 101, 99, 101] then (match told b, lotT n c with
    | some w, some l => if 1 ≤ w ∧ w ≤ 3 then some (w, l) else none
    | _, _ => none) else none
  | _ => none
def pieceP : Option (Nat × List Nat) → P
  | some q => .tup [.int (q.1 : Nat), .tup (nL q.2)]
  | none => .non
theorem asc_piece : Asc [112, 105, 101, 99, 101] := by unfold Asc; decide
theorem piece_run {n : Nat} {line : List Nat} (hl : line.length ≤ 100000) (ha : Asc line) : F__piece_8db6 [.str (tx line), .int (n : Nat)] = .ok (pieceP (pieceT n line)) := by
  have hs := split_g (c := 32) (l := line) (by decide) (by omega)
  have hn := cut_ne (c := 32) (l := line)
  have hsub : ∀ w ∈ cutL 32 line, w.length ≤ 100000 ∧ Asc w := fun w hw => ⟨by have := cut_short hw; omega, asc_cut ha hw⟩
  unfold F__piece_8db6 B__piece_8db6 pieceT
  have many : ∀ (a : List Nat) (t : List (List Nat)), eqG true (.int (((a :: t).map fun w => P.str (tx w)).length : Nat)) (.int 3) = some (.bl (!decide (t.length = 2))) := fun a t => by
    rw [neg_t okN_int okN_int, eqv_int]
    congr 3
    rw [List.length_map, List.length_cons]
    exact decide_eq_decide.mpr ⟨fun h => by omega, fun h => by omega⟩
  generalize cutL 32 line = ws at hs hn hsub
  match ws, hn with
  | a :: t, _ =>
    have e1 := ne_tx (a := a) (b := [112, 105, 101, 99, 101]) (hsub a List.mem_cons_self).2 asc_piece
    have m1 := many a t
    have h0 : atI ((a :: t).map fun w => P.str (tx w)) 0 = some (.str (tx a)) := atI_nat (j := 0) rfl
    rw [List.map_cons] at hs m1 h0
    simp_arith [l_blank, hs, h0, l_piece, e1]
    by_cases c1 : a = [112, 105, 101, 99, 101]
    · by_cases c2 : t.length = 2
      · rw [decide_eq_true c2] at m1
        match t, c2 with
        | [b, c], _ =>
          have hb := hsub b (by simp)
          have hc := hsub c (by simp)
          have r1 := integer_told_run hb.1 hb.2
          have r2 := lot_told_run (n := n) hc.1 hc.2
          rw [List.map_cons, List.map_cons, List.map_nil] at m1
          simp_arith [decide_eq_true c1, Bool.not_true, m1, r1, r2]
          rw [if_pos c1]
          unfold toldI
          cases ht : told b with
          | none =>
            have z1 : ¬ (1 : Int) ≤ -1 := by decide
            simp_arith [z1, decide_false]
            rfl
          | some w =>
            by_cases z1 : 1 ≤ w
            · by_cases z2 : w ≤ 3
              · have y1 : (1 : Int) ≤ ((w : Nat) : Int) := by omega
                have y2 : ((w : Nat) : Int) ≤ 3 := by omega
                cases hlt : lotT n c with
                | none =>
                  simp_arith [y1, y2, decide_true, lotP]
                  rfl
                | some l =>
                  simp_arith [y1, y2, decide_true, lotP]
                  rw [if_pos ⟨z1, z2⟩]
                  rfl
              · have y1 : (1 : Int) ≤ ((w : Nat) : Int) := by omega
                have y2 : ¬ ((w : Nat) : Int) ≤ 3 := by omega
                simp_arith [y1, y2, decide_true, decide_false]
                cases lotT n c with
                | none => rfl
                | some l =>
                  show _ = PRes.ok (pieceP (if 1 ≤ w ∧ w ≤ 3 then some (w, l) else none))
                  rw [if_neg fun h => z2 h.2]; rfl
            · have y1 : ¬ (1 : Int) ≤ ((w : Nat) : Int) := by omega
              simp_arith [y1, decide_false]
              cases lotT n c with
              | none => rfl
              | some l =>
                show _ = PRes.ok (pieceP (if 1 ≤ w ∧ w ≤ 3 then some (w, l) else none))
                rw [if_neg fun h => z1 h.1]; rfl
      · rw [decide_eq_false c2] at m1
        simp_arith [decide_eq_true c1, Bool.not_true, Bool.not_false, m1]
        match t, c2 with
        | [], _ => rfl
        | [_], _ => rfl
        | [_, _], c2 => exact absurd rfl c2
        | _ :: _ :: _ :: _, _ => rfl
    · simp_arith [decide_eq_false c1, Bool.not_false]
      match t with
      | [] => rfl
      | [_] => rfl
      | [b, c] =>
        show _ = PRes.ok (pieceP (if a = [112, 105, 101, 99, 101] then _ else none))
        rw [if_neg c1]; rfl
      | _ :: _ :: _ :: _ => rfl
end TX
set_option Elab.async false
set_option linter.all false
set_option maxRecDepth 100000
set_option maxHeartbeats 1000000
namespace TX
open PySem L2 ML U C TL
theorem initF_run {n : Nat} {racks rooms rates : List Nat} (h : GoodCl n racks rooms rates) :
    mkP 20 ["racks", "rooms", "rates", "store_count"] F_Cluster___init___47d9 [.fl (nL racks), .fl (nL rooms), .fl (nL rates)] = .ok (clP racks rooms rates) := by
  have hp := h.pos
  have hle := h.le
  have q1 : ((1 : Int) ≤ (racks.length : Nat)) = True := by rw [h.l1]; simp; omega
  have q2 : (((racks.length : Nat) : Int) ≤ 8) = True := by rw [h.l1]; simp; omega
  have q3 : (((rooms.length : Nat) : Int) = (racks.length : Nat)) = True := by rw [h.l1, h.l2]; simp
  have q4 : (((rates.length : Nat) : Int) = (racks.length : Nat)) = True := by rw [h.l1, h.l3]; simp
  have n1 : racks ≠ [] := fun e => by have := h.l1; rw [e] at this; simp at this; omega
  have n2 : rooms ≠ [] := fun e => by have := h.l2; rw [e] at this; simp at this; omega
  have n3 : rates ≠ [] := fun e => by have := h.l3; rw [e] at this; simp at this; omega
  unfold F_Cluster___init___47d9 B_Cluster___init___47d9
  rw [e_mkP]
  simp_arith [nL_len, q1, q2]
  generalize e : forL _ _ _ _ _ = r
  have e1 := look_run e (ρ1 := [some (.ref 0), some (.p (.fl (nL racks))), some (.p (.fl (nL rooms))), some (.p (.fl (nL rates))), none, none, none, none]) (.inr n1) (by
    intro i v ρ hv hρ
    have hb := h.b1 v (List.mem_of_getElem? hv)
    have ef := ift_run (x := .int (v : Nat)) (lo := 0) (hi := 99) rfl
    have hi : ift (.int (v : Nat)) 0 99 = true := by simp [ift]; omega
    rcases hρ with rfl | rfl <;> simp_arith [ef, hi])
  subst e1
  simp_arith [nL_len, q3]
  generalize e : forL _ _ _ _ _ = r
  have e1 := look_run e (ρ1 := [some (.ref 0), some (.p (.fl (nL racks))), some (.p (.fl (nL rooms))), some (.p (.fl (nL rates))), none, none, none, none]) (.inr n2) (by
    intro i v ρ hv hρ
    have hb := h.b2 v (List.mem_of_getElem? hv)
    have ef := ift_run (x := .int (v : Nat)) (lo := 0) (hi := 99) rfl
    have hi : ift (.int (v : Nat)) 0 99 = true := by simp [ift]; omega
    rcases hρ with rfl | rfl <;> simp_arith [ef, hi])
  subst e1
  simp_arith [nL_len, q4]
  generalize e : forL _ _ _ _ _ = r
  have e1 := look_run e (ρ1 := [some (.ref 0), some (.p (.fl (nL racks))), some (.p (.fl (nL rooms))), some (.p (.fl (nL rates))), none, none, none, none]) (.inr n3) (by
    intro i v ρ hv hρ
    have hb := h.b3 v (List.mem_of_getElem? hv)
    have ef := ift_run (x := .int (v : Nat)) (lo := 1) (hi := 8) rfl
    have hi : ift (.int (v : Nat)) 1 8 = true := by simp [ift]; omega
    rcases hρ with rfl | rfl <;> simp_arith [ef, hi])
  subst e1
  simp_arith [nL_len, pt1, pt2, pt3]
  exact mk_cl
def kClb : List Nat := [99, 108, 117, 115, 116, 101, 114, 32]
def kStb : List Nat := [115, 116, 111, 114, 101, 32]
def kPib : List Nat := [112, 105, 101, 99, 101, 32]
theorem l_clb : Str.ofString "cluster " = tx kClb := lit rfl
theorem l_stb : Str.ofString "store " = tx kStb := lit rfl
theorem l_pib : Str.ofString "piece " = tx kPib := lit rfl
theorem n_clb : kClb.length = 8 := rfl
theorem n_stb : kStb.length = 6 := rfl
theorem n_pib : kPib.length = 6 := rfl
def wLine (n m : Nat) : List Nat := ((kClb ++ numL n) ++ [32]) ++ numL m
def sLine (a b c : Nat) : List Nat := kStb ++ joinL [32] (numW [a, b, c])
def pLine (w : Nat) (lot : List Nat) : List Nat := ((kPib ++ numL w) ++ [32]) ++ joinL [44] (numW lot)
def sLines (racks rooms rates : List Nat) (n : Nat) : List (List Nat) := (List.range n).map fun v => sLine (racks[v]?.getD 0) (rooms[v]?.getD 0) (rates[v]?.getD 0)
def pLines (ws : List Nat) (pl : List (List Nat)) (k : Nat) : List (List Nat) := (List.range k).map fun i => pLine (ws[i]?.getD 0) (pl[i]?.getD [])
def worldLs (racks rooms rates ws : List Nat) (pl : List (List Nat)) : List (List Nat) := wLine racks.length ws.length :: (sLines racks rooms rates racks.length ++ pLines ws pl ws.length)
theorem join_le {c : Nat} {ws : List (List Nat)} : (joinL [c] ws).length ≤ (ws.map List.length).sum + ws.length := by
  cases ws with
  | nil => simp [joinL]
  | cons w t =>
    have h := join_len (c := c) (ws := w :: t) (List.cons_ne_nil _ _)
    have : ∀ l : List (List Nat), (l.map fun w => w.length + 1).sum = (l.map List.length).sum + l.length := fun l => by
      induction l with
      | nil => rfl
      | cons a l ih => simp only [List.map_cons, List.sum_cons, List.length_cons]; omega
    rw [this] at h
    omega
theorem numJ_le {c : Nat} {ns : List Nat} (h : ∀ v ∈ ns, v ≤ 99) : (joinL [c] (numW ns)).length ≤ 3 * ns.length := by
  have h1 := join_le (c := c) (ws := numW ns)
  have h2 := numW_sum h
  have h3 : (numW ns).length = ns.length := List.length_map ..
  omega
theorem sLine_len {a b c : Nat} (h1 : a ≤ 99) (h2 : b ≤ 99) (h3 : c ≤ 99) : (sLine a b c).length ≤ 15 := by
  have := numJ_le (c := 32) (ns := [a, b, c]) (by intro v hv; simp at hv; rcases hv with rfl | rfl | rfl <;> assumption)
  unfold sLine
  rw [List.length_append, n_stb]
  simp only [List.length_cons, List.length_nil] at this ⊢
  omega
theorem pLine_len {w : Nat} {lot : List Nat} (h1 : w ≤ 99) (h2 : ∀ v ∈ lot, v ≤ 99) : (pLine w lot).length ≤ 9 + 3 * lot.length := by
  have := numJ_le (c := 44) h2
  have := num_len h1
  unfold pLine
  simp only [n_clb, n_stb, n_pib, List.length_append, List.length_cons, List.length_nil]
  omega
def strL (ls : List (List Nat)) : List P := ls.map fun w => .str (tx w)
theorem strL_len {ls : List (List Nat)} : (strL ls).length = ls.length := List.length_map ..
theorem strL_app {ls : List (List Nat)} {w : List Nat} : strL ls ++ [.str (tx w)] = strL (ls ++ [w]) := by unfold strL; rw [List.map_append]; rfl
section
variable {n k : Nat} {racks rooms rates ws : List Nat} {pl : List (List Nat)}
theorem lines_len (hcl : GoodCl n racks rooms rates) (hw : GoodW k ws) (hk : k ≤ 99) (hb : pl.length = k) (gp : GoodPl n pl) : ∀ w ∈ worldLs racks rooms rates ws pl, w.length ≤ 100 := by
  intro w hw1
  have h8 := hcl.le
  unfold worldLs at hw1
  rcases List.mem_cons.mp hw1 with rfl | hw1
  · have h1 := num_len (n := racks.length) (by rw [hcl.l1]; omega)
    have h2 := num_len (n := ws.length) (by rw [hw.len]; omega)
    unfold wLine
    simp only [n_clb, n_stb, n_pib, List.length_append, List.length_cons, List.length_nil]
    omega
  · rcases List.mem_append.mp hw1 with hw1 | hw1
    · unfold sLines at hw1
      obtain ⟨v, hv, rfl⟩ := List.mem_map.mp hw1
      have hv := List.mem_range.mp hv
      rw [hcl.l1] at hv
      have g1 : racks[v]?.getD 0 ≤ 99 := by rw [List.getElem?_eq_getElem (by rw [hcl.l1]; exact hv)]; exact hcl.b1 _ (List.getElem_mem _)
      have g2 : rooms[v]?.getD 0 ≤ 99 := by rw [List.getElem?_eq_getElem (by rw [hcl.l2]; exact hv)]; exact hcl.b2 _ (List.getElem_mem _)
      have g3 : rates[v]?.getD 0 ≤ 99 := by
        rw [List.getElem?_eq_getElem (by rw [hcl.l3]; exact hv)]
        have := (hcl.b3 _ (List.getElem_mem (by rw [hcl.l3]; exact hv : v < rates.length))).2
        exact Nat.le_trans this (by decide)
      have := sLine_len g1 g2 g3
      omega
    · unfold pLines at hw1
      obtain ⟨i, hi, rfl⟩ := List.mem_map.mp hw1
      have hi := List.mem_range.mp hi
      have hi2 : i < pl.length := by rw [hb, ← hw.len]; exact hi
      have g1 : ws[i]?.getD 0 ≤ 99 := by
        rw [List.getElem?_eq_getElem hi]
        have := (hw.b _ (List.getElem_mem hi)).2
        exact Nat.le_trans this (by decide)
      have hg := gp _ (List.getElem_mem hi2)
      have g2 : ∀ v ∈ pl[i]?.getD [], v ≤ 99 := fun v hv => by
        rw [List.getElem?_eq_getElem hi2] at hv
        have := hg.lt v hv
        omega
      have g3 : (pl[i]?.getD []).length ≤ 8 := by
        rw [List.getElem?_eq_getElem hi2]
        exact Nat.le_trans (up_len hg.up hg.lt) h8
      have := pLine_len g1 g2
      omega
theorem lines_many (hcl : GoodCl n racks rooms rates) (hw : GoodW k ws) : (worldLs racks rooms rates ws pl).length = 1 + n + k := by
  unfold worldLs sLines pLines
  simp only [List.length_cons, List.length_append, List.length_map, List.length_range]
  have := hcl.l1
  have := hw.len
  omega
theorem sum_le {ls : List (List Nat)} {m : Nat} (h : ∀ w ∈ ls, w.length ≤ m) : (ls.map List.length).sum ≤ m * ls.length := by
  induction ls with
  | nil => simp
  | cons a t ih =>
    have h1 := h a List.mem_cons_self
    have h2 := ih fun w hw => h w (List.mem_cons_of_mem _ hw)
    rw [List.map_cons, List.sum_cons, List.length_cons, Nat.mul_succ]
    omega
theorem join_lf (h : ∀ w ∈ ls, w.length ≤ 100) (hm : ls.length ≤ 1000) : joinT (tx [10]) (.fl (strL ls)) = some (.str (tx (joinL [10] ls))) := by
  have := sum_le h
  have h2 : 100 * ls.length ≤ 100 * 1000 := Nat.mul_le_mul_left _ hm
  exact join_g (by simp only [n_clb, n_stb, n_pib, List.length_cons, List.length_nil]; omega)
theorem write_world_run (hcl : GoodCl n racks rooms rates) (hw : GoodW k ws) (hk : k ≤ 99) (hb : pl.length = k) (gp : GoodPl n pl) :
    F_write_world_255a [clP racks rooms rates, .tup (nL ws), .tup (plL pl)] = .ok (.str (tx (joinL [10] (worldLs racks rooms rates ws pl)))) := by
  have h8 := hcl.le
  have hr := hcl.l1
  have hwl := hw.len
  have c0 : ∀ η : RH, attR "store_count" (ixL [(20, 3)]) η (.p (clP racks rooms rates)) = .ok (.p (.int (racks.length : Nat))) η := fun _ => rfl
  have a1 := num_len (n := n) (by omega)
  have a2 := num_len (n := k) (by omega)
  have b1 := add_tx (a := kClb) (b := numL n) (by simp only [n_clb, n_stb, n_pib, List.length_cons, List.length_nil]; omega)
  have b2 := add_tx (a := kClb ++ numL n) (b := [32]) (by simp only [n_clb, n_stb, n_pib, List.length_append, List.length_cons, List.length_nil]; omega)
  have b3 := add_tx (a := (kClb ++ numL n) ++ [32]) (b := numL k) (by simp only [n_clb, n_stb, n_pib, List.length_append, List.length_cons, List.length_nil]; omega)
  have rk : ∀ v, v < n → ∃ a b c, racks[v]? = some a ∧ rooms[v]? = some b ∧ rates[v]? = some c ∧ a ≤ 99 ∧ b ≤ 99 ∧ c ≤ 99 := fun v hv => by
    refine ⟨_, _, _, List.getElem?_eq_getElem (by rw [hcl.l1]; exact hv), List.getElem?_eq_getElem (by rw [hcl.l2]; exact hv), List.getElem?_eq_getElem (by rw [hcl.l3]; exact hv), hcl.b1 _ (List.getElem_mem _), hcl.b2 _ (List.getElem_mem _), ?_⟩
    have := (hcl.b3 _ (List.getElem_mem (by rw [hcl.l3]; exact hv : v < rates.length))).2
    exact Nat.le_trans this (by decide)
  have e0 : [P.str (tx ((kClb ++ numL n) ++ [32] ++ numL k))] = strL [wLine n k] := rfl
  unfold F_write_world_255a B_write_world_255a
  simp_arith [c0, hr, nL_len, hwl, str_n (n := n) (by omega), str_n (n := k) (by omega), l_clb, l_blank, b1, b2, b3, g_rngN (k := n) (by omega)]
  rw [e0]
  generalize e : forL _ _ _ _ _ = r
  obtain ⟨ρ, η, rfl, ⟨q4, q5, q6, q7, q8, rfl⟩, rfl⟩ := for_done e (fun i ρ η => (∃ q4 q5 q6 q7 q8, ρ = [some (.p (clP racks rooms rates)), some (.p (.tup (nL ws))), some (.p (.tup (plL pl))), some (.ref 0), q4, q5, q6, q7, q8]) ∧ η = [.ls (strL (wLine n k :: sLines racks rooms rates i))]) ⟨⟨_, _, _, _, _, rfl⟩, rfl⟩ (by
    rintro v x ρ η hx ⟨⟨q4, q5, q6, q7, q8, rfl⟩, rfl⟩
    obtain ⟨rfl, hv⟩ := range_get hx
    obtain ⟨a, b, c, ha, hb', hc, la, lb, lc⟩ := rk v hv
    have hz : (0 : Int) + ((v : Nat) : Int) = ((v : Nat) : Int) := Int.zero_add _
    have k1 : attR "racks" (ixL [(20, 0)]) = attR "racks" (ixL [(20, 0)]) := rfl
    have g1 : atI (nL racks) ((v : Nat) : Int) = some (.int (a : Nat)) := atI_nat (by rw [nL_map, List.getElem?_map, ha]; rfl)
    have g2 : atI (nL rooms) ((v : Nat) : Int) = some (.int (b : Nat)) := atI_nat (by rw [nL_map, List.getElem?_map, hb']; rfl)
    have g3 : atI (nL rates) ((v : Nat) : Int) = some (.int (c : Nat)) := atI_nat (by rw [nL_map, List.getElem?_map, hc]; rfl)
    have f1 : ∀ η : RH, attR "racks" (ixL [(20, 0)]) η (.p (clP racks rooms rates)) = .ok (.p (.tup (nL racks))) η := fun _ => rfl
    have f2 : ∀ η : RH, attR "rooms" (ixL [(20, 1)]) η (.p (clP racks rooms rates)) = .ok (.p (.tup (nL rooms))) η := fun _ => rfl
    have f3 : ∀ η : RH, attR "rates" (ixL [(20, 2)]) η (.p (clP racks rooms rates)) = .ok (.p (.tup (nL rates))) η := fun _ => rfl
    have hns : ∀ v ∈ [a, b, c], v ≤ 99 := by intro v hv; simp at hv; rcases hv with rfl | rfl | rfl <;> assumption
    have hj := join_g (c := [32]) (ws := numW [a, b, c]) (by have := numW_sum hns; unfold numW at this ⊢; simp only [List.length_cons, List.length_nil, List.length_map] at this ⊢; omega)
    have hjl := numJ_le (c := 32) hns
    have ha2 := add_tx (a := kStb) (b := joinL [32] (numW [a, b, c])) (by simp only [n_clb, n_stb, n_pib, List.length_cons, List.length_nil] at hjl ⊢; omega)
    have zA : (strL (wLine n k :: sLines racks rooms rates v)).length < sizeLine := small' (by rw [strL_len]; unfold sLines; simp; omega)
    have sA : strL (wLine n k :: sLines racks rooms rates v) ++ [P.str (tx (kStb ++ joinL [32] (numW [a, b, c])))] = strL (wLine n k :: sLines racks rooms rates (v + 1)) := by
      rw [strL_app]
      congr 1
      unfold sLines
      rw [List.range_succ, List.map_append]
      rw [List.map_cons, List.map_nil, ha, hb', hc]
      rfl
    have ef : [P.int (a : Nat), P.int (b : Nat), P.int (c : Nat)] = nL [a, b, c] := rfl
    simp_arith [hz, f1, f2, f3, g1, g2, g3, l_blank, l_stb]
    rw [ef]
    rw [KComp_ok (small (by rw [nL_len]; simp)), strs_run (by
      intro u hu
      simp_arith [str_n (n := u) (by have := hns u hu; omega)])]
    simp_arith [hj, ha2, app_ls zA, sA]
    exact ⟨⟨_, _, _, _, _, rfl⟩, by first | rfl | trivial⟩)
  clear e
  rw [range_len]
  simp_arith []
  generalize e : forL _ _ _ _ _ = r
  obtain ⟨ρ, η, rfl, ⟨q0, q1, q4, q5, q6, q7, q8, rfl⟩, rfl⟩ := for_done e (fun i ρ η => (∃ q0 q1 q4 q5 q6 q7 q8, ρ = [q0, q1, some (.p (.tup (plL pl))), some (.ref 0), q4, q5, q6, q7, q8]) ∧ η = [.ls (strL (wLine n k :: (sLines racks rooms rates n ++ pLines ws pl i)))]) ⟨⟨_, _, _, _, _, _, _, rfl⟩, by unfold pLines; simp⟩ (by
    rintro i x ρ η hx ⟨⟨q0, q1, q4, q5, q6, q7, q8, rfl⟩, rfl⟩
    obtain ⟨y, hy, rfl⟩ := enum_get hx
    rw [nL_map, List.getElem?_map] at hy
    obtain ⟨w, hw1, rfl⟩ := Option.map_eq_some_iff.mp hy
    have hil := (List.getElem?_eq_some_iff.mp hw1).1
    have hi2 : i < pl.length := by omega
    have hg := gp _ (List.getElem_mem hi2)
    have wb := (hw.b w (List.mem_of_getElem? hw1)).2
    have l99 : ∀ v ∈ pl[i], v ≤ 99 := fun v hv => by have := hg.lt v hv; omega
    have ll : (pl[i]).length ≤ 8 := Nat.le_trans (up_len hg.up hg.lt) h8
    have LT := lot_text_run l99 (by omega)
    have hat : atI (plL pl) ((i : Nat) : Int) = some (.tup (nL pl[i])) := atI_nat (plL_get (List.getElem?_eq_getElem hi2))
    have hjl := numJ_le (c := 44) l99
    have n1 := num_len (n := w) (by omega)
    have d1 := add_tx (a := kPib) (b := numL w) (by rw [n_pib]; omega)
    have d2 := add_tx (a := kPib ++ numL w) (b := [32]) (by rw [List.length_append, n_pib]; simp only [List.length_cons, List.length_nil]; omega)
    have d3 := add_tx (a := kPib ++ numL w ++ [32]) (b := joinL [44] (numW pl[i])) (by rw [List.length_append, List.length_append, n_pib]; simp only [List.length_cons, List.length_nil]; omega)
    have zA : (strL (wLine n k :: (sLines racks rooms rates n ++ pLines ws pl i))).length < sizeLine := small' (by rw [strL_len]; unfold sLines pLines; simp; omega)
    have sA : strL (wLine n k :: (sLines racks rooms rates n ++ pLines ws pl i)) ++ [P.str (tx (kPib ++ numL w ++ [32] ++ joinL [44] (numW pl[i])))] = strL (wLine n k :: (sLines racks rooms rates n ++ pLines ws pl (i + 1))) := by
      rw [strL_app]
      congr 1
      unfold pLines
      rw [List.range_succ, List.map_append, List.map_cons, List.map_nil, hw1, List.getElem?_eq_getElem hi2, List.cons_append, List.append_assoc]
      rfl
    simp_arith [l_pib, l_blank, str_n (n := w) (by omega), hat, LT, d1, d2, d3, app_ls zA, sA]
    exact ⟨⟨_, _, _, _, _, _, _, rfl⟩, by first | rfl | trivial⟩)
  clear e
  rw [enumP_length, nL_len]
  have hL : wLine n k :: (sLines racks rooms rates n ++ pLines ws pl ws.length) = worldLs racks rooms rates ws pl := by unfold worldLs; rw [hr, hwl]
  rw [hL]
  have hj := join_lf (lines_len hcl hw hk hb gp) (by rw [lines_many hcl hw]; omega)
  simp_arith [l_lf, hj]
end
end TX
set_option Elab.async false
set_option linter.all false
set_option maxRecDepth 100000
set_option maxHeartbeats 1000000
namespace TX
open PySem L2 ML U C TL
theorem toldI_nn {w : List Nat} (h : 0 ≤ toldI w) : ∃ n : Nat, told w = some n ∧ toldI w = (n : Nat) := by
  unfold toldI at h ⊢
  cases ht : told w with
  | none => rw [ht] at h; exact absurd h (by decide)
  | some n => exact ⟨n, rfl, rfl⟩
theorem toldI_num {n : Nat} (h : n ≤ 99) : toldI (numL n) = (n : Nat) := by unfold toldI; rw [told_num h]
theorem words_num : ∀ {ws : List (List Nat)}, (∀ w ∈ ws, 0 ≤ toldI w) → ws = numW ((ws.map toldI).map Int.toNat) ∧ ∀ v ∈ (ws.map toldI).map Int.toNat, v ≤ 99
  | [], _ => ⟨rfl, fun v h => (nomatch h)⟩
  | w :: ws, h => by
    obtain ⟨n, h1, h2⟩ := toldI_nn (h w List.mem_cons_self)
    obtain ⟨e, hn⟩ := told_eq h1
    obtain ⟨i1, i2⟩ := words_num (ws := ws) fun u hu => h u (List.mem_cons_of_mem _ hu)
    have z : (toldI w).toNat = n := by rw [h2]; rfl
    refine ⟨?_, fun v hv => ?_⟩
    · rw [List.map_cons, List.map_cons, z]
      unfold numW at i1 ⊢
      rw [List.map_cons, ← i1, ← e]
    · rw [List.map_cons, List.map_cons, z] at hv
      rcases List.mem_cons.mp hv with rfl | hv
      · exact hn
      · exact i2 v hv
def iLn (l : List Nat) : List Int := l.map fun n : Nat => (n : Int)
theorem num_words {l : List Nat} (h : ∀ v ∈ l, v ≤ 99) : (numW l).map toldI = iLn l := by
  unfold numW iLn
  rw [List.map_map]
  exact List.map_congr_left fun v hv => toldI_num (h v hv)
theorem iLn_toNat {l : List Nat} : (iLn l).map Int.toNat = l := by
  unfold iLn
  rw [List.map_map]
  exact (List.map_congr_left fun v _ => rfl).trans (List.map_id _)
theorem lf_num {n : Nat} : 10 ∉ numL n := numL_free (.inl (by decide))
theorem bl_num {n : Nat} : 32 ∉ numL n := numL_free (.inl (by decide))
theorem cm_num {n : Nat} : 44 ∉ numL n := numL_free (.inl (by decide))
theorem not_join {c d : Nat} (hcd : c ≠ d) : ∀ {ws : List (List Nat)}, (∀ w ∈ ws, c ∉ w) → c ∉ joinL [d] ws
  | [], _ => List.not_mem_nil
  | [w], h => h w (List.mem_singleton.mpr rfl)
  | w :: v :: t, h => by
    rw [join_cons (List.cons_ne_nil _ _), List.mem_append, List.mem_cons]
    rintro (h1 | h1 | h1)
    · exact h w List.mem_cons_self h1
    · exact hcd h1
    · exact not_join hcd (fun u hu => h u (List.mem_cons_of_mem _ hu)) h1
theorem numW_free {c : Nat} {l : List Nat} (h : ∀ n, c ∉ numL n) : ∀ w ∈ numW l, c ∉ w := fun w hw => by
  unfold numW at hw
  obtain ⟨n, _, rfl⟩ := List.mem_map.mp hw
  exact h n
theorem numW_ne {l : List Nat} (h : l ≠ []) : numW l ≠ [] := fun e => h (List.map_eq_nil_iff.mp e)
theorem upB_iff {xs : List Int} : upB xs = true ↔ xs.Pairwise (· < ·) := by
  unfold upB
  rw [List.all_eq_true]
  constructor
  · intro h
    rw [List.pairwise_iff_getElem]
    have key : ∀ d i, i + d + 1 < xs.length → xs[i]?.getD 0 < xs[i + d + 1]?.getD 0 := by
      intro d
      induction d with
      | zero =>
        intro i hi
        have := h i (List.mem_range.mpr (by omega))
        exact of_decide_eq_true this
      | succ d ih =>
        intro i hi
        have h1 := ih i (by omega)
        have h2 := of_decide_eq_true (h (i + d + 1) (List.mem_range.mpr (by omega)))
        have e : i + (d + 1) + 1 = i + d + 1 + 1 := by omega
        rw [e]
        omega
    intro i j hi hj hij
    have := key (j - i - 1) i (by omega)
    have e : i + (j - i - 1) + 1 = j := by omega
    rw [e, List.getElem?_eq_getElem hi, List.getElem?_eq_getElem hj] at this
    exact this
  · intro h k hk
    have hk := List.mem_range.mp hk
    rw [List.pairwise_iff_getElem] at h
    have := h k (k + 1) (by omega) (by omega) (by omega)
    rw [List.getElem?_eq_getElem (show k < xs.length by omega), List.getElem?_eq_getElem (show k + 1 < xs.length by omega)]
    exact decide_eq_true this
theorem iLn_up {l : List Nat} : (iLn l).Pairwise (· < ·) ↔ l.Pairwise (· < ·) := by
  unfold iLn
  rw [List.pairwise_map]
  constructor
  · intro h; exact h.imp fun {a b} x => by omega
  · intro h; exact h.imp fun {a b} x => by omega
theorem lotT_of {n : Nat} {l : List Nat} (hn : n ≤ 100) (h : GoodLot n l) : lotT n (joinL [44] (numW l)) = some l := by
  have h99 : ∀ v ∈ l, v ≤ 99 := fun v hv => by have := h.lt v hv; omega
  have hc := cut_join (c := 44) (numW_ne h.ne) (numW_free fun n => cm_num)
  unfold lotT
  rw [hc, num_words h99, iLn_toNat]
  refine if_pos ⟨?_, ?_⟩
  · rw [List.all_eq_true]
    intro x hx
    unfold iLn at hx
    obtain ⟨v, hv, rfl⟩ := List.mem_map.mp hx
    have := h.lt v hv
    rw [Bool.and_eq_true]
    exact ⟨decide_eq_true (by omega), decide_eq_true (by omega)⟩
  · rw [upB_iff]
    exact iLn_up.mpr h.up
theorem wordsV_of {first l : List Nat} (hf : 32 ∉ first) (h99 : ∀ v ∈ l, v ≤ 99) : (cutL 32 (joinL [32] (first :: numW l))).headD [] = first ∧ (cutL 32 (joinL [32] (first :: numW l))).length = l.length + 1 ∧ wordsV (joinL [32] (first :: numW l)) = iLn l := by
  have hc := cut_join (c := 32) (ws := first :: numW l) (List.cons_ne_nil _ _) (fun w hw => by
    rcases List.mem_cons.mp hw with rfl | hw
    · exact hf
    · exact numW_free (fun n => bl_num) w hw)
  unfold wordsV
  rw [hc]
  exact ⟨rfl, by simp [numW], num_words h99⟩
theorem numsT_of {first l : List Nat} {bs : List (Nat × Nat)} (hf : 32 ∉ first) (hl : l.length = bs.length) (hb : ∀ (k : Nat) v b, l[k]? = some v → bs[k]? = some b → b.1 ≤ v ∧ v ≤ b.2) (h99 : ∀ v ∈ l, v ≤ 99) : numsT (joinL [32] (first :: numW l)) first bs = some l := by
  obtain ⟨h1, h2, h3⟩ := wordsV_of hf h99
  unfold numsT
  rw [h1, h2, h3, iLn_toNat]
  refine if_pos ⟨rfl, by omega, ?_⟩
  unfold okB
  rw [List.all_eq_true]
  intro k hk
  have hk := List.mem_range.mp hk
  have hkl : k < l.length := by omega
  have := hb k l[k] bs[k] (List.getElem?_eq_getElem hkl) (List.getElem?_eq_getElem hk)
  unfold inB iLn
  rw [List.getElem?_map, List.getElem?_eq_getElem hkl, List.getElem?_eq_getElem hk, Bool.and_eq_true]
  exact ⟨decide_eq_true (by show ((bs[k].1 : Nat) : Int) ≤ ((l[k] : Nat) : Int); omega), decide_eq_true (by show ((l[k] : Nat) : Int) ≤ ((bs[k].2 : Nat) : Int); omega)⟩
theorem numsT_some {line first l : List Nat} {bs : List (Nat × Nat)} (h : numsT line first bs = some l) : line = joinL [32] (first :: numW l) ∧ l.length = bs.length ∧ (∀ (k : Nat) v b, l[k]? = some v → bs[k]? = some b → b.1 ≤ v ∧ v ≤ b.2) ∧ ∀ v ∈ l, v ≤ 99 := by
  unfold numsT at h
  split at h
  · rename_i hc
    obtain ⟨h1, h2, h3⟩ := hc
    have hwl : (wordsV line).length = bs.length := by unfold wordsV; rw [List.length_map, List.length_tail]; omega
    have hin : ∀ k, k < bs.length → (((bs[k]?.getD (0, 0)).1 : Nat) : Int) ≤ (wordsV line)[k]?.getD 0 ∧ (wordsV line)[k]?.getD 0 ≤ (((bs[k]?.getD (0, 0)).2 : Nat) : Int) := fun k hk => by
      have := List.all_eq_true.mp h3 k (List.mem_range.mpr hk)
      unfold inB at this
      rw [Bool.and_eq_true] at this
      exact ⟨of_decide_eq_true this.1, of_decide_eq_true this.2⟩
    have hnn : ∀ w ∈ (cutL 32 line).tail, 0 ≤ toldI w := fun w hw => by
      have hm : toldI w ∈ wordsV line := List.mem_map_of_mem hw
      obtain ⟨k, hk⟩ := List.mem_iff_getElem?.mp hm
      have hkl := (List.getElem?_eq_some_iff.mp hk).1
      have := (hin k (by omega)).1
      rw [hk] at this
      show 0 ≤ (some (toldI w)).getD 0
      omega
    obtain ⟨e, h99⟩ := words_num hnn
    have hl : (wordsV line).map Int.toNat = l := Option.some.inj h
    have hl2 : (((cutL 32 line).tail.map toldI).map Int.toNat) = l := hl
    rw [hl2] at e h99
    have hll : l.length = bs.length := by rw [← hl, List.length_map]; exact hwl
    refine ⟨?_, hll, fun k v b hv hbk => ?_, h99⟩
    · rw [← e, ← h1, cut_eta, join_cut]
    · have hk := (List.getElem?_eq_some_iff.mp hbk).1
      have hv2 : (wordsV line)[k]? = some ((v : Nat) : Int) := by
        rw [← hl, List.getElem?_map] at hv
        obtain ⟨x, hx, hxv⟩ := Option.map_eq_some_iff.mp hv
        rw [hx]
        have hm : x ∈ wordsV line := List.mem_of_getElem? hx
        obtain ⟨w, hw, rfl⟩ := List.mem_map.mp hm
        have := hnn w hw
        congr 1
        rw [← hxv, Int.toNat_of_nonneg this]
      have := hin k hk
      rw [hv2, hbk] at this
      have h1 : ((b.1 : Nat) : Int) ≤ ((v : Nat) : Int) := this.1
      have h2 : ((v : Nat) : Int) ≤ ((b.2 : Nat) : Int) := this.2
      omega
  · cases h
theorem bl_piece : 32 ∉ [112, 105, 101, 99, 101] := by decide
theorem pLine_join {w : Nat} {lot : List Nat} : pLine w lot = joinL [32] [[112, 105, 101, 99, 101], numL w, joinL [44] (numW lot)] := by
  rw [join_cons (List.cons_ne_nil _ _), join_cons (List.cons_ne_nil _ _)]
  unfold pLine kPib
  show _ = [112, 105, 101, 99, 101] ++ 32 :: (numL w ++ 32 :: joinL [44] (numW lot))
  simp
theorem pieceT_of {n w : Nat} {l : List Nat} (hn : n ≤ 100) (h1 : 1 ≤ w) (h2 : w ≤ 3) (h : GoodLot n l) : pieceT n (pLine w l) = some (w, l) := by
  have hc := cut_join (c := 32) (ws := [[112, 105, 101, 99, 101], numL w, joinL [44] (numW l)]) (List.cons_ne_nil _ _) (fun u hu => by
    simp only [List.mem_cons, List.not_mem_nil, or_false] at hu
    rcases hu with rfl | rfl | rfl
    · exact bl_piece
    · exact bl_num
    · exact not_join (by decide) (numW_free fun n => bl_num))
  unfold pieceT
  rw [pLine_join, hc]
  show (if [112, 105, 101, 99, 101] = [112, 105, 101, 99, 101] then (match told (numL w), lotT n (joinL [44] (numW l)) with
    | some w, some l => if 1 ≤ w ∧ w ≤ 3 then some (w, l) else none
    | _, _ => none) else none) = _
  rw [if_pos rfl, told_num (by omega), lotT_of hn h]
  exact if_pos ⟨h1, h2⟩
end TX
set_option Elab.async false
set_option linter.all false
set_option maxRecDepth 100000
set_option maxHeartbeats 1000000
namespace TX
open PySem L2 ML U C TL
def kCl : List Nat := [99, 108, 117, 115, 116, 101, 114]
def kSt : List Nat := [115, 116, 111, 114, 101]
theorem l_cl : Str.ofString "cluster" = tx kCl := lit rfl
theorem l_st : Str.ofString "store" = tx kSt := lit rfl
theorem asc_cl : Asc kCl := by unfold Asc kCl; decide
theorem asc_st : Asc kSt := by unfold Asc kSt; decide
def sizesT (line : List Nat) : Option (List Nat) := numsT line kCl [(1, 8), (0, 40)]
def storeT (line : List Nat) : Option (List Nat) := numsT line kSt [(0, 99), (0, 99), (1, 8)]
def okL (S M k : Nat) (line : List Nat) : Bool := if k ≤ S then (storeT line).isSome else decide (k ≤ S + M) && (pieceT S line).isSome
def badAt (S M : Nat) (L : List (List Nat)) : Option Nat := (List.range L.length).find? fun k => decide (1 ≤ k) && !okL S M k (L[k]?.getD [])
def stsL (S : Nat) (L : List (List Nat)) (i : Nat) : List (List Nat) := ((L.drop 1).take (min i S)).map fun l => (storeT l).getD []
def pcsL (S : Nat) (L : List (List Nat)) (i : Nat) : List (Nat × List Nat) := ((L.drop (S + 1)).take (i - S)).map fun l => (pieceT S l).getD (0, [])
def colL (k : Nat) (rows : List (List Nat)) : List Nat := rows.map fun r => r[k]?.getD 0
def wrongT (text : List Nat) (k : Nat) : PRes := .ex 10 [.int (k : Nat), .str (tx text)]
def worldP (S M : Nat) (L : List (List Nat)) : P := .tup [clP (colL 0 (stsL S L S)) (colL 1 (stsL S L S)) (colL 2 (stsL S L S)), .tup (nL ((pcsL S L (S + M)).map (·.1))), .tup (plL ((pcsL S L (S + M)).map (·.2)))]
def readL (text : List Nat) (L : List (List Nat)) : PRes :=
  match sizesT (L.headD []) with
  | some [S, M] => match badAt S M L with
    | some k => wrongT text (posL L k)
    | none => if L.length ≤ S + M then wrongT text text.length else .ok (worldP S M L)
  | _ => wrongT text 0
def readR (text : List Nat) : PRes := readL text (cutL 10 text)
section
variable {text : List Nat} {L : List (List Nat)} {S M k : Nat}
theorem readL_none (h : sizesT (L.headD []) = none) : readL text L = wrongT text 0 := by unfold readL; rw [h]
theorem readL_bad (h : sizesT (L.headD []) = some [S, M]) (hb : badAt S M L = some k) : readL text L = wrongT text (posL L k) := by
  unfold readL
  rw [h]
  show (match badAt S M L with
    | some k => wrongT text (posL L k)
    | none => if L.length ≤ S + M then wrongT text text.length else .ok (worldP S M L)) = _
  rw [hb]
theorem readL_short (h : sizesT (L.headD []) = some [S, M]) (hb : badAt S M L = none) (hs : L.length ≤ S + M) : readL text L = wrongT text text.length := by
  unfold readL
  rw [h]
  show (match badAt S M L with
    | some k => wrongT text (posL L k)
    | none => if L.length ≤ S + M then wrongT text text.length else .ok (worldP S M L)) = _
  rw [hb]
  exact if_pos hs
theorem readL_good (h : sizesT (L.headD []) = some [S, M]) (hb : badAt S M L = none) (hs : ¬ L.length ≤ S + M) : readL text L = .ok (worldP S M L) := by
  unfold readL
  rw [h]
  show (match badAt S M L with
    | some k => wrongT text (posL L k)
    | none => if L.length ≤ S + M then wrongT text text.length else .ok (worldP S M L)) = _
  rw [hb]
  exact if_neg hs
def BadR (text : List Nat) (S M : Nat) (L : List (List Nat)) (r : SRes) : Prop := ∃ k ρ η, badAt S M L = some k ∧ r = .ex 10 [.int (posL L k : Nat), .str (tx text)] ρ η
end
theorem fm_some {α β : Type} {f : α → Option β} {g : α → β} : ∀ {l : List α}, (∀ x ∈ l, f x = some (g x)) → l.filterMap f = l.map g
  | [], _ => rfl
  | a :: l, h => by
    rw [List.filterMap_cons_some (h a List.mem_cons_self), fm_some fun x hx => h x (List.mem_cons_of_mem _ hx), List.map_cons]
theorem sizesT_some {line l : List Nat} (h : sizesT line = some l) : ∃ S M, l = [S, M] ∧ 1 ≤ S ∧ S ≤ 8 ∧ M ≤ 40 := by
  obtain ⟨_, h1, h2, _⟩ := numsT_some h
  match l, h1 with
  | [S, M], _ =>
    have a := h2 0 S (1, 8) rfl rfl
    have b := h2 1 M (0, 40) rfl rfl
    exact ⟨S, M, rfl, a.1, a.2, b.2⟩
theorem storeT_some {line r : List Nat} (h : storeT line = some r) : ∃ a b c, r = [a, b, c] ∧ a ≤ 99 ∧ b ≤ 99 ∧ 1 ≤ c ∧ c ≤ 8 ∧ line = sLine a b c := by
  obtain ⟨h0, h1, h2, _⟩ := numsT_some h
  match r, h1 with
  | [a, b, c], _ =>
    have x := h2 0 a (0, 99) rfl rfl
    have y := h2 1 b (0, 99) rfl rfl
    have z := h2 2 c (1, 8) rfl rfl
    refine ⟨a, b, c, rfl, x.2, y.2, z.1, z.2, ?_⟩
    rw [h0, join_cons (numW_ne (List.cons_ne_nil _ _))]
    unfold sLine kSt kStb
    simp
theorem badAt_some {S M k : Nat} {L : List (List Nat)} (h1 : 1 ≤ k) (hk : k < L.length) (hb : okL S M k (L[k]?.getD []) = false) (hj : ∀ j, 1 ≤ j → j < k → okL S M j (L[j]?.getD []) = true) : badAt S M L = some k := by
  unfold badAt
  rw [List.find?_range_eq_some]
  refine ⟨by rw [hb, decide_eq_true h1]; rfl, List.mem_range.mpr hk, fun j hjk => ?_⟩
  by_cases h : 1 ≤ j
  · rw [hj j h hjk]; simp
  · rw [decide_eq_false h]; rfl
theorem badAt_none {S M : Nat} {L : List (List Nat)} (hj : ∀ j, 1 ≤ j → j < L.length → okL S M j (L[j]?.getD []) = true) : badAt S M L = none := by
  unfold badAt
  rw [List.find?_eq_none]
  intro j hjk
  by_cases h : 1 ≤ j
  · rw [hj j h (List.mem_range.mp hjk)]; simp
  · rw [decide_eq_false h]; simp
theorem take_succ' {α : Type} {l : List α} {i : Nat} {a : α} (h : l[i]? = some a) : l.take (i + 1) = l.take i ++ [a] := by
  obtain ⟨hi, rfl⟩ := List.getElem?_eq_some_iff.mp h
  exact List.take_succ_eq_append_getElem hi
theorem stsL_add {S i : Nat} {L : List (List Nat)} {line : List Nat} (h : i < S) (hl : L[i + 1]? = some line) : stsL S L (i + 1) = stsL S L i ++ [(storeT line).getD []] := by
  unfold stsL
  rw [Nat.min_eq_left (show i + 1 ≤ S by omega), Nat.min_eq_left (show i ≤ S by omega), take_succ' (a := line) (by rw [List.getElem?_drop, Nat.add_comm]; exact hl), List.map_append]
  rfl
theorem stsL_stay {S i : Nat} {L : List (List Nat)} (h : S ≤ i) : stsL S L (i + 1) = stsL S L i := by
  unfold stsL
  rw [Nat.min_eq_right (show S ≤ i + 1 by omega), Nat.min_eq_right h]
theorem pcsL_add {S i : Nat} {L : List (List Nat)} {line : List Nat} (h : S ≤ i) (hl : L[i + 1]? = some line) : pcsL S L (i + 1) = pcsL S L i ++ [(pieceT S line).getD (0, [])] := by
  unfold pcsL
  rw [show i + 1 - S = (i - S) + 1 by omega, take_succ' (a := line) (by rw [List.getElem?_drop, show S + 1 + (i - S) = i + 1 by omega]; exact hl), List.map_append]
  rfl
theorem pcsL_stay {S i : Nat} {L : List (List Nat)} (h : i < S) : pcsL S L (i + 1) = pcsL S L i := by
  unfold pcsL
  rw [show i + 1 - S = 0 by omega, show i - S = 0 by omega]
def rowsP (rows : List (List Nat)) : List P := rows.map fun r => .fl (nL r)
theorem read_world_run {text : List Nat} (hl : text.length ≤ 50000) (ha : Asc text) : F_read_world_b56d [.str (tx text)] = readR text := by
  have hs := split_g (c := 10) (l := text) (by decide) (by omega)
  have hm := cut_many (c := 10) (l := text)
  have hn := cut_ne (c := 10) (l := text)
  have hsub : ∀ w ∈ cutL 10 text, w.length ≤ 100000 ∧ Asc w := fun w hw => ⟨by have := cut_short hw; omega, asc_cut ha hw⟩
  have hb := begins_run (ls := cutL 10 text) (by omega) fun w hw => (hsub w hw).1
  have hp : 0 < (cutL 10 text).length := List.length_pos_iff.mpr hn
  have hh : (cutL 10 text).headD [] ∈ cutL 10 text := by rw [← cut_eta (c := 10) (l := text)]; exact List.mem_cons_self
  unfold readR
  generalize hL : cutL 10 text = L at hs hm hn hsub hb hp hh
  have h0 : atI (L.map fun w => P.str (tx w)) 0 = some (.str (tx (L.headD []))) := by
    have : (L.map fun w => P.str (tx w))[0]? = some (.str (tx (L.headD []))) := by
      rw [List.getElem?_map]
      cases h : L with
      | nil => exact absurd h hn
      | cons a t => rfl
    exact atI_nat (j := 0) this
  have N0 := numbers_run (line := L.headD []) (first := kCl) (bs := [(1, 8), (0, 40)]) (hsub _ hh).1 (hsub _ hh).2 asc_cl (by decide)
  have hb0 : bdL [(1, 8), (0, 40)] = [.tup [.int 1, .int 8], .tup [.int 0, .int 40]] := rfl
  rw [hb0] at N0
  unfold F_read_world_b56d B_read_world_b56d
  have N0 : F__numbers_6b34 [.str (tx (L.headD [])), .str (tx kCl), .fl [.tup [.int 1, .int 8], .tup [.int 0, .int 40]]] = .ok (numP (sizesT (L.headD []))) := N0
  have big : ∀ w ∈ L, w.length ≤ 50000 := fun w hw => by rw [← hL] at hw; have := cut_short hw; omega
  cases hsz : sizesT (L.headD []) with
  | none =>
    rw [hsz] at N0
    have e0 : numP none = .non := rfl
    rw [readL_none hsz]
    simp_arith [l_lf, hs, hb, h0, l_cl, N0, e0]
    rfl
  | some l =>
    obtain ⟨S, M, rfl, hS1, hS8, hM⟩ := sizesT_some hsz
    rw [hsz] at N0
    have e0 : numP (some [S, M]) = .fl [.int (S : Nat), .int (M : Nat)] := rfl
    have hr : rngG2 [.int 1, .int ((L.length : Nat) : Int)] = some (rangeP 1 (L.length - 1)) := by
      rw [g_rng2 ⟨by decide, by decide, by omega, by omega⟩]
      congr 2
      omega
    simp_arith [l_lf, hs, hb, h0, l_cl, N0, e0, ML.e_asgL, ML.KAsgL_ok, List.length_map, hr]
    generalize e : forL _ _ _ _ _ = r
    rcases for_end e (BadR text S M L) (fun i ρ η => (∃ q3 q9 q10 q11 q12 q13, ρ = [some (.p (.str (tx text))), some (.p (.fl (L.map fun w => P.str (tx w)))), some (.p (.fl (nL ((List.range L.length).map (posL L))))), q3, some (.p (.int (S : Nat))), some (.p (.int (M : Nat))), some (.ref 0), some (.ref 1), some (.ref 2), q9, q10, q11, q12, q13]) ∧
        η = [.ls (rowsP (stsL S L i)), .ls (nL ((pcsL S L i).map (·.1))), .ls (plL ((pcsL S L i).map (·.2)))] ∧ ∀ k, 1 ≤ k → k < i + 1 → okL S M k (L[k]?.getD []) = true)
      ⟨⟨_, _, _, _, _, _, rfl⟩, by unfold stsL pcsL; simp [rowsP, plL, nL, iL], fun k h1 h2 => absurd h2 (by omega)⟩ (by
      rintro i x ρ η hx ⟨⟨q3, q9, q10, q11, q12, q13, rfl⟩, rfl, hall⟩
      obtain ⟨rfl, hi⟩ := range_get hx
      have hil : i + 1 < L.length := by omega
      have hLi : L[i + 1]? = some L[i + 1] := List.getElem?_eq_getElem hil
      have hsi := hsub _ (List.getElem_mem hil)
      have z1 : (1 : Int) + ((i : Nat) : Int) = ((i + 1 : Nat) : Int) := by omega
      have at1 : atI (L.map fun w => P.str (tx w)) ((i + 1 : Nat) : Int) = some (.str (tx L[i + 1])) := atI_nat (by rw [List.getElem?_map, hLi]; rfl)
      have at2 : atI (nL ((List.range L.length).map (posL L))) ((i + 1 : Nat) : Int) = some (.int (posL L (i + 1) : Nat)) := atI_nat (by rw [nL_map, List.getElem?_map, List.getElem?_map, List.getElem?_range hil]; rfl)
      have hgl : L[i + 1]?.getD [] = L[i + 1] := by rw [hLi]; rfl
      have bad : okL S M (i + 1) L[i + 1] = false → badAt S M L = some (i + 1) := fun h => badAt_some (by omega) hil (by rw [hgl]; exact h) fun j h1 h2 => hall j h1 h2
      have good : okL S M (i + 1) L[i + 1] = true → ∀ k, 1 ≤ k → k < i + 1 + 1 → okL S M k (L[k]?.getD []) = true := fun h k h1 h2 => by
        rcases Nat.lt_or_ge k (i + 1) with hk | hk
        · exact hall k h1 hk
        · have : k = i + 1 := by omega
          subst this
          rw [hgl]; exact h
      by_cases hS : i + 1 ≤ S
      · have c1 : ((i + 1 : Nat) : Int) ≤ ((S : Nat) : Int) := by omega
        have R := numbers_run (line := L[i + 1]) (first := kSt) (bs := [(0, 99), (0, 99), (1, 8)]) hsi.1 hsi.2 asc_st (by decide)
        have R : F__numbers_6b34 [.str (tx L[i + 1]), .str (tx kSt), .fl [.tup [.int 0, .int 99], .tup [.int 0, .int 99], .tup [.int 1, .int 8]]] = .ok (numP (storeT L[i + 1])) := R
        cases hst : storeT L[i + 1] with
        | none =>
          rw [hst] at R
          have e0 : numP none = .non := rfl
          simp_arith [z1, c1, decide_true, at1, l_st, R, e0, at2]
          exact ⟨_, _, _, bad (by unfold okL; rw [if_pos hS, hst]; rfl), rfl⟩
        | some row =>
          rw [hst] at R
          have e0 : numP (some row) = .fl (nL row) := rfl
          have zA : (rowsP (stsL S L i)).length < sizeLine := small' (by unfold rowsP stsL; simp; omega)
          have sA : rowsP (stsL S L i) ++ [.fl (nL row)] = rowsP (stsL S L (i + 1)) := by
            rw [stsL_add (by omega) hLi, hst]
            unfold rowsP
            rw [List.map_append]; rfl
          have sB : pcsL S L (i + 1) = pcsL S L i := pcsL_stay (by omega)
          simp_arith [z1, c1, decide_true, at1, l_st, R, e0, app_ls zA, sA]
          exact ⟨⟨_, _, _, _, _, _, rfl⟩, by rw [sB], good (by unfold okL; rw [if_pos hS, hst]; rfl)⟩
      · have c1 : ¬ ((i + 1 : Nat) : Int) ≤ ((S : Nat) : Int) := by omega
        have R := piece_run (n := S) hsi.1 hsi.2
        by_cases hM : i + 1 ≤ S + M
        · have c2 : ¬ ((i + 1 : Nat) : Int) > ((S : Nat) : Int) + ((M : Nat) : Int) := by omega
          cases hpc : pieceT S L[i + 1] with
          | none =>
            rw [hpc] at R
            have e0 : pieceP none = .non := rfl
            simp_arith [z1, c1, c2, decide_false, at1, R, e0, at2]
            exact ⟨_, _, _, bad (by unfold okL; rw [if_neg hS, hpc]; simp), rfl⟩
          | some q =>
            rw [hpc] at R
            have e0 : pieceP (some q) = .tup [.int (q.1 : Nat), .tup (nL q.2)] := rfl
            have zA : (nL ((pcsL S L i).map (·.1))).length < sizeLine := small' (by rw [nL_len]; unfold pcsL; simp; omega)
            have zB : (plL ((pcsL S L i).map (·.2))).length < sizeLine := small' (by rw [plL_len]; unfold pcsL; simp; omega)
            have sP := pcsL_add (S := S) (L := L) (by omega) hLi
            rw [hpc] at sP
            have sP : pcsL S L (i + 1) = pcsL S L i ++ [q] := sP
            have sA : nL ((pcsL S L i).map (·.1)) ++ [.int (q.1 : Nat)] = nL ((pcsL S L (i + 1)).map (·.1)) := by
              rw [sP, List.map_append, nL_map, nL_map, List.map_append]; rfl
            have sB : plL ((pcsL S L i).map (·.2)) ++ [.tup (nL q.2)] = plL ((pcsL S L (i + 1)).map (·.2)) := by
              rw [sP, List.map_append]; unfold plL; rw [List.map_append]; rfl
            have sC : stsL S L (i + 1) = stsL S L i := stsL_stay (by omega)
            simp_arith [z1, c1, c2, decide_false, at1, R, e0, app_ls zA, app_ls zB, sA, sB]
            exact ⟨⟨_, _, _, _, _, _, rfl⟩, by rw [sC], good (by unfold okL; rw [if_neg hS, hpc, decide_eq_true hM]; rfl)⟩
        · have c2 : ((i + 1 : Nat) : Int) > ((S : Nat) : Int) + ((M : Nat) : Int) := by omega
          simp_arith [z1, c1, c2, decide_false, decide_true, at1, R, at2]
          exact ⟨_, _, _, bad (by unfold okL; rw [if_neg hS, decide_eq_false hM]; rfl), rfl⟩) with ⟨k, ρ, η, hbd, rfl⟩ | ⟨ρ, η, rfl, ⟨q3, q9, q10, q11, q12, q13, rfl⟩, rfl, hall⟩
    · clear e
      rw [readL_bad hsz hbd]
      simp_arith []
      rfl
    · clear e
      rw [range_len] at hall ⊢
      have hall : ∀ k, 1 ≤ k → k < L.length → okL S M k (L[k]?.getD []) = true := fun k h1 h2 => hall k h1 (by omega)
      have hbn := badAt_none hall
      by_cases hsh : L.length ≤ S + M
      · have c1 : ((L.length : Nat) : Int) ≤ ((S : Nat) : Int) + ((M : Nat) : Int) := by omega
        have lt := len_tx (l := text) (by omega)
        rw [readL_short hsz hbn hsh]
        simp_arith [List.length_map, c1, decide_true, lt]
        rfl
      · have c1 : ¬ ((L.length : Nat) : Int) ≤ ((S : Nat) : Int) + ((M : Nat) : Int) := by omega
        have hlen : L.length = S + M + 1 := by
          have h1 := hall (L.length - 1)
          rcases Nat.lt_or_ge (S + M + 1) L.length with h | h
          · have := h1 (by omega) (by omega)
            unfold okL at this
            rw [if_neg (by omega), decide_eq_false (by omega)] at this
            cases this
          · omega
        have hi : L.length - 1 = S + M := by omega
        have hss : stsL S L (S + M) = stsL S L S := by unfold stsL; rw [Nat.min_eq_right (by omega), Nat.min_self]
        rw [readL_good hsz hbn hsh, hi, hss]
        simp_arith [List.length_map, c1, decide_false]
        have hrow : ∀ r ∈ stsL S L S, ∃ a b c, r = [a, b, c] ∧ a ≤ 99 ∧ b ≤ 99 ∧ 1 ≤ c ∧ c ≤ 8 := fun r hr => by
          unfold stsL at hr
          obtain ⟨l, hl1, rfl⟩ := List.mem_map.mp hr
          obtain ⟨j, hj⟩ := List.mem_iff_getElem?.mp hl1
          rw [Nat.min_self] at hj
          have hjS : j < S := by
            have := (List.getElem?_eq_some_iff.mp hj).1
            rw [List.length_take] at this
            omega
          rw [List.getElem?_take, if_pos hjS, List.getElem?_drop] at hj
          have := hall (1 + j) (by omega) (by omega)
          unfold okL at this
          rw [if_pos (by omega), hj] at this
          obtain ⟨row, hrow⟩ := Option.isSome_iff_exists.mp (show (storeT l).isSome = true from this)
          rw [hrow]
          obtain ⟨a, b, c, h1, h2, h3, h4, h5, _⟩ := storeT_some hrow
          exact ⟨a, b, c, h1, h2, h3, h4, h5⟩
        have hslen : (stsL S L S).length = S := by unfold stsL; simp; omega
        have col : ∀ (k : Nat) (ρ : LEnv) (η : RH), k < 3 → η[0]? = some (.ls (rowsP (stsL S L S))) → (∀ r : List Nat, k < r.length → stC yesT (op2 gIx (nameM 13) (cM (.int (k : Nat)))) (tgS (.nm 13) (.p (.fl (nL r))) ρ) η = .ok (some (.int (r[k]?.getD 0 : Nat))) η) →
            KCw (.nm 13) yesT (op2 gIx (nameM 13) (cM (.int (k : Nat)))) ρ η (some (0, rowsP (stsL S L S))) = .ok (.p (.fl (nL (colL k (stsL S L S))))) η := fun k ρ η hk h0 h => by
          have : nL (colL k (stsL S L S)) = (rowsP (stsL S L S)).filterMap fun x => match x with
              | .fl xs => xs[k]?
              | _ => none := by
            unfold rowsP colL
            rw [List.filterMap_map, nL_map, List.map_map]
            refine (fm_some fun r hr => ?_).symm
            obtain ⟨a, b, c, rfl, _⟩ := hrow r hr
            match k, hk with
            | 0, _ => rfl
            | 1, _ => rfl
            | 2, _ => rfl
          rw [this]
          refine KCw_ok h0 (small' (by unfold rowsP; rw [List.length_map]; omega)) fun x hx => ?_
          unfold rowsP at hx
          obtain ⟨r, hr, rfl⟩ := List.mem_map.mp hx
          obtain ⟨a, b, c, rfl, _⟩ := hrow r hr
          rw [h _ (by simp; omega)]
          match k, hk with
          | 0, _ => rfl
          | 1, _ => rfl
          | 2, _ => rfl
        have r0 := col 0
        have r1 := col 1
        have r2 := col 2
        have ev : ∀ (k : Nat) (r : List Nat), k < r.length → atI (nL r) ((k : Nat) : Int) = some (.int (r[k]?.getD 0 : Nat)) := fun k r h => by
          rw [nL_at h, List.getElem?_eq_getElem h]; rfl
        have v0 : ∀ r : List Nat, 0 < r.length → atI (nL r) 0 = some (.int (r[0]?.getD 0 : Nat)) := ev 0
        have v1 : ∀ r : List Nat, 1 < r.length → atI (nL r) 1 = some (.int (r[1]?.getD 0 : Nat)) := ev 1
        have v2 : ∀ r : List Nat, 2 < r.length → atI (nL r) 2 = some (.int (r[2]?.getD 0 : Nat)) := ev 2
        have r0 := fun ρ η => r0 ρ η (by decide)
        have r1 := fun ρ η => r1 ρ η (by decide)
        have r2 := fun ρ η => r2 ρ η (by decide)
        rw [show (0 : Int) = ((0 : Nat) : Int) from rfl, r0 _ _ rfl (by
          intro r hr
          simp_arith [v0 r hr])]
        simp_arith []
        rw [show (1 : Int) = ((1 : Nat) : Int) from rfl, r1 _ _ rfl (by
          intro r hr
          simp_arith [v1 r hr])]
        simp_arith []
        rw [show (2 : Int) = ((2 : Nat) : Int) from rfl, r2 _ _ rfl (by
          intro r hr
          simp_arith [v2 r hr])]
        have gcl : GoodCl S (colL 0 (stsL S L S)) (colL 1 (stsL S L S)) (colL 2 (stsL S L S)) := by
          refine ⟨by unfold colL; rw [List.length_map]; exact hslen, by unfold colL; rw [List.length_map]; exact hslen, by unfold colL; rw [List.length_map]; exact hslen, hS1, hS8, fun v hv => ?_, fun v hv => ?_, fun v hv => ?_⟩
          all_goals
            unfold colL at hv
            obtain ⟨r, hr, rfl⟩ := List.mem_map.mp hv
            obtain ⟨a, b, c, rfl, h1, h2, h3, h4⟩ := hrow r hr
          · exact h1
          · exact h2
          · exact ⟨h3, h4⟩
        have IR := initF_run gcl
        simp_arith [IR]
        rfl
end TX
set_option Elab.async false
set_option linter.all false
set_option maxRecDepth 100000
set_option maxHeartbeats 1000000
namespace TX
open PySem L2 ML U C TL
section
variable {n k : Nat} {racks rooms rates ws : List Nat} {pl : List (List Nat)}
theorem bl_cl : 32 ∉ kCl := by decide
theorem bl_st : 32 ∉ kSt := by decide
theorem wLine_join {n m : Nat} : wLine n m = joinL [32] (kCl :: numW [n, m]) := by
  unfold numW
  rw [List.map_cons, List.map_cons, List.map_nil, join_cons (List.cons_ne_nil _ _), join_cons (List.cons_ne_nil _ _)]
  unfold wLine kClb kCl
  show _ = [99, 108, 117, 115, 116, 101, 114] ++ 32 :: (numL n ++ 32 :: numL m)
  simp
theorem sLine_join {a b c : Nat} : sLine a b c = joinL [32] (kSt :: numW [a, b, c]) := by
  rw [join_cons (numW_ne (List.cons_ne_nil _ _))]
  unfold sLine kSt kStb
  simp
theorem sizesT_of {n m : Nat} (h1 : 1 ≤ n) (h2 : n ≤ 8) (h3 : m ≤ 40) : sizesT (wLine n m) = some [n, m] := by
  rw [wLine_join]
  refine numsT_of bl_cl rfl (fun k v b hv hb => ?_) (fun v hv => by simp at hv; rcases hv with rfl | rfl <;> omega)
  match k, hv, hb with
  | 0, hv, hb => cases hv; cases hb; exact ⟨h1, h2⟩
  | 1, hv, hb => cases hv; cases hb; exact ⟨Nat.zero_le _, h3⟩
theorem storeT_of {a b c : Nat} (h1 : a ≤ 99) (h2 : b ≤ 99) (h3 : 1 ≤ c) (h4 : c ≤ 8) : storeT (sLine a b c) = some [a, b, c] := by
  rw [sLine_join]
  refine numsT_of bl_st rfl (fun k v b hv hb => ?_) (fun v hv => by simp at hv; rcases hv with rfl | rfl | rfl <;> omega)
  match k, hv, hb with
  | 0, hv, hb => cases hv; cases hb; exact ⟨Nat.zero_le _, h1⟩
  | 1, hv, hb => cases hv; cases hb; exact ⟨Nat.zero_le _, h2⟩
  | 2, hv, hb => cases hv; cases hb; exact ⟨h3, h4⟩
theorem not_app {c : Nat} {a b : List Nat} (h1 : c ∉ a) (h2 : c ∉ b) : c ∉ a ++ b := fun h => (List.mem_append.mp h).elim h1 h2
theorem lf_lines : ∀ w ∈ worldLs racks rooms rates ws pl, 10 ∉ w := by
  intro w hw
  unfold worldLs at hw
  rcases List.mem_cons.mp hw with rfl | hw
  · unfold wLine
    exact not_app (not_app (not_app (by decide) lf_num) (by decide)) lf_num
  · rcases List.mem_append.mp hw with hw | hw
    · unfold sLines at hw
      obtain ⟨v, _, rfl⟩ := List.mem_map.mp hw
      unfold sLine
      exact not_app (by decide) (not_join (by decide) (numW_free fun n => lf_num))
    · unfold pLines at hw
      obtain ⟨v, _, rfl⟩ := List.mem_map.mp hw
      unfold pLine
      exact not_app (not_app (not_app (by decide) lf_num) (by decide)) (not_join (by decide) (numW_free fun n => lf_num))
theorem asc_join {c : Nat} (hc : c < 1000) : ∀ {ws : List (List Nat)}, (∀ w ∈ ws, Asc w) → Asc (joinL [c] ws)
  | [], _ => fun a h => (nomatch h)
  | [w], h => h w (List.mem_singleton.mpr rfl)
  | w :: v :: t, h => by
    rw [join_cons (List.cons_ne_nil _ _)]
    refine (h w List.mem_cons_self).app fun a ha => ?_
    rcases List.mem_cons.mp ha with rfl | ha
    · exact hc
    · exact asc_join hc (fun u hu => h u (List.mem_cons_of_mem _ hu)) a ha
theorem asc_numW {l : List Nat} : ∀ w ∈ numW l, Asc w := fun w hw => by
  unfold numW at hw
  obtain ⟨n, _, rfl⟩ := List.mem_map.mp hw
  exact asc_num
theorem asc_k : Asc kClb ∧ Asc kStb ∧ Asc kPib ∧ Asc [32] := by unfold Asc kClb kStb kPib; decide
theorem asc_lines : ∀ w ∈ worldLs racks rooms rates ws pl, Asc w := by
  intro w hw
  obtain ⟨a1, a2, a3, a4⟩ := asc_k
  unfold worldLs at hw
  rcases List.mem_cons.mp hw with rfl | hw
  · unfold wLine
    exact ((a1.app asc_num).app a4).app asc_num
  · rcases List.mem_append.mp hw with hw | hw
    · unfold sLines at hw
      obtain ⟨v, _, rfl⟩ := List.mem_map.mp hw
      unfold sLine
      exact a2.app (asc_join (by decide) asc_numW)
    · unfold pLines at hw
      obtain ⟨v, _, rfl⟩ := List.mem_map.mp hw
      unfold pLine
      exact ((a3.app asc_num).app a4).app (asc_join (by decide) asc_numW)
theorem asc_world : Asc (joinL [10] (worldLs racks rooms rates ws pl)) := asc_join (by decide) asc_lines
theorem len_world (hcl : GoodCl n racks rooms rates) (hw : GoodW k ws) (hk : k ≤ 99) (hb : pl.length = k) (gp : GoodPl n pl) : (joinL [10] (worldLs racks rooms rates ws pl)).length ≤ 20000 := by
  have h1 := join_le (c := 10) (ws := worldLs racks rooms rates ws pl)
  have h2 := sum_le (lines_len hcl hw hk hb gp)
  have h3 := lines_many (pl := pl) hcl hw
  have := hcl.le
  omega
theorem read_written (hcl : GoodCl n racks rooms rates) (hw : GoodW k ws) (hk : k ≤ 40) (hb : pl.length = k) (gp : GoodPl n pl) :
    readR (joinL [10] (worldLs racks rooms rates ws pl)) = .ok (.tup [clP racks rooms rates, .tup (nL ws), .tup (plL pl)]) := by
  have h8 := hcl.le
  have hpos := hcl.pos
  have hr := hcl.l1
  have hwl := hw.len
  have hc := cut_join (c := 10) (ws := worldLs racks rooms rates ws pl) (List.cons_ne_nil _ _) lf_lines
  have hlen := lines_many (pl := pl) hcl hw
  have hs : sizesT ((worldLs racks rooms rates ws pl).headD []) = some [n, k] := by
    show sizesT (wLine racks.length ws.length) = _
    rw [hr, hwl]
    exact sizesT_of hpos h8 hk
  have rk : ∀ v, v < n → ∃ a b c, racks[v]? = some a ∧ rooms[v]? = some b ∧ rates[v]? = some c ∧ a ≤ 99 ∧ b ≤ 99 ∧ 1 ≤ c ∧ c ≤ 8 := fun v hv =>
    ⟨_, _, _, List.getElem?_eq_getElem (by rw [hcl.l1]; exact hv), List.getElem?_eq_getElem (by rw [hcl.l2]; exact hv), List.getElem?_eq_getElem (by rw [hcl.l3]; exact hv), hcl.b1 _ (List.getElem_mem _), hcl.b2 _ (List.getElem_mem _), hcl.b3 _ (List.getElem_mem _)⟩
  have gs : ∀ v, v < n → (worldLs racks rooms rates ws pl)[v + 1]? = some (sLine (racks[v]?.getD 0) (rooms[v]?.getD 0) (rates[v]?.getD 0)) := fun v hv => by
    unfold worldLs sLines
    rw [List.getElem?_cons_succ, List.getElem?_append_left (by simp; omega), List.getElem?_map, List.getElem?_range (by omega)]
    rfl
  have gp' : ∀ i, i < k → (worldLs racks rooms rates ws pl)[n + 1 + i]? = some (pLine (ws[i]?.getD 0) (pl[i]?.getD [])) := fun i hi => by
    unfold worldLs sLines pLines
    rw [show n + 1 + i = (n + i) + 1 by omega, List.getElem?_cons_succ, List.getElem?_append_right (by simp; omega), List.getElem?_map, List.length_map, List.length_range, List.getElem?_range (by omega)]
    rw [show n + i - racks.length = i by omega]
    rfl
  have ps : ∀ i, i < k → pieceT n (pLine (ws[i]?.getD 0) (pl[i]?.getD [])) = some (ws[i]?.getD 0, pl[i]?.getD []) := fun i hi => by
    have hiw : i < ws.length := by omega
    have hip : i < pl.length := by omega
    rw [List.getElem?_eq_getElem hiw, List.getElem?_eq_getElem hip]
    have wb := hw.b _ (List.getElem_mem hiw)
    exact pieceT_of (by omega) wb.1 wb.2 (gp _ (List.getElem_mem hip))
  have ss : ∀ v, v < n → storeT (sLine (racks[v]?.getD 0) (rooms[v]?.getD 0) (rates[v]?.getD 0)) = some [racks[v]?.getD 0, rooms[v]?.getD 0, rates[v]?.getD 0] := fun v hv => by
    obtain ⟨a, b, c, h1, h2, h3, h4, h5, h6, h7⟩ := rk v hv
    rw [h1, h2, h3]
    exact storeT_of h4 h5 h6 h7
  have hbn : badAt n k (worldLs racks rooms rates ws pl) = none := badAt_none fun j h1 h2 => by
    unfold okL
    by_cases hj : j ≤ n
    · rw [if_pos hj, show j = (j - 1) + 1 by omega, gs (j - 1) (by omega)]
      show (storeT (sLine (racks[j - 1]?.getD 0) (rooms[j - 1]?.getD 0) (rates[j - 1]?.getD 0))).isSome = true
      rw [ss (j - 1) (by omega)]
      rfl
    · rw [if_neg hj, show j = n + 1 + (j - n - 1) by omega, gp' (j - n - 1) (by omega), decide_eq_true (by omega)]
      show (pieceT n (pLine (ws[j - n - 1]?.getD 0) (pl[j - n - 1]?.getD []))).isSome = true
      rw [ps (j - n - 1) (by omega)]
      rfl
  unfold readR
  rw [hc, readL_good hs hbn (by omega)]
  have e1 : stsL n (worldLs racks rooms rates ws pl) n = (List.range n).map fun v => [racks[v]?.getD 0, rooms[v]?.getD 0, rates[v]?.getD 0] := by
    unfold stsL
    refine List.ext_getElem? fun v => ?_
    rw [List.getElem?_map, Nat.min_self, List.getElem?_take, List.getElem?_map]
    by_cases hv : v < n
    · rw [if_pos hv, List.getElem?_drop, Nat.add_comm, gs v hv, List.getElem?_range hv]
      show some ((storeT _).getD []) = _
      rw [ss v hv]; rfl
    · rw [if_neg hv, List.getElem?_eq_none (by simp; omega)]; rfl
  have e2 : pcsL n (worldLs racks rooms rates ws pl) (n + k) = (List.range k).map fun i => (ws[i]?.getD 0, pl[i]?.getD []) := by
    unfold pcsL
    refine List.ext_getElem? fun i => ?_
    rw [List.getElem?_map, Nat.add_sub_cancel_left, List.getElem?_take, List.getElem?_map]
    by_cases hi : i < k
    · rw [if_pos hi, List.getElem?_drop, gp' i hi, List.getElem?_range hi]
      show some ((pieceT n (pLine _ _)).getD (0, [])) = _
      rw [ps i hi]; rfl
    · rw [if_neg hi, List.getElem?_eq_none (by simp; omega)]; rfl
  have back : ∀ {α : Type} (l : List α) (d : α) (m : Nat), l.length = m → ((List.range m).map fun v => l[v]?.getD d) = l := fun l d m h => by
    refine List.ext_getElem? fun v => ?_
    rw [List.getElem?_map]
    by_cases hv : v < m
    · rw [List.getElem?_range hv, Option.map_some, List.getElem?_eq_getElem (show v < l.length by omega)]; rfl
    · rw [List.getElem?_eq_none (by simp; omega), List.getElem?_eq_none (by omega)]; rfl
  unfold worldP colL
  rw [e1, e2, List.map_map, List.map_map, List.map_map, List.map_map, List.map_map]
  have f1 := back racks 0 n hr
  have f2 := back rooms 0 n hcl.l2
  have f3 := back rates 0 n hcl.l3
  have f4 := back ws 0 k hwl
  have f5 := back pl [] k hb
  show PRes.ok (.tup [clP ((List.range n).map fun v => racks[v]?.getD 0) ((List.range n).map fun v => rooms[v]?.getD 0) ((List.range n).map fun v => rates[v]?.getD 0), .tup (nL ((List.range k).map fun v => ws[v]?.getD 0)), .tup (plL ((List.range k).map fun v => pl[v]?.getD []))]) = _
  rw [f1, f2, f3, f4, f5]
end
end TX
set_option Elab.async false
set_option linter.all false
set_option maxRecDepth 100000
set_option maxHeartbeats 1000000
namespace K05
open PySem L2 ML U C TL TX
section
variable {n k : Nat} {racks rooms rates ws : List Nat} {pl : List (List Nat)}
def clT (racks rooms rates : List Nat) : P := .tup [.tup (nL racks), .tup (nL rooms), .tup (nL rates)]
theorem law_lines_run (hcl : GoodCl n racks rooms rates) (hw : GoodW k ws) (hk : k ≤ 99) (hb : pl.length = k) (gp : GoodPl n pl) :
    F__law_lines_4c5b [clT racks rooms rates, .tup (nL ws), .tup (plL pl)] = .ok (.fl (strL (worldLs racks rooms rates ws pl))) := by
  have h8 := hcl.le
  have hr := hcl.l1
  have hwl := hw.len
  have a1 := num_len (n := n) (by omega)
  have a2 := num_len (n := k) (by omega)
  have b1 := add_tx (a := kClb) (b := numL n) (by rw [n_clb]; omega)
  have b2 := add_tx (a := kClb ++ numL n) (b := [32]) (by rw [List.length_append, n_clb]; simp only [List.length_cons, List.length_nil]; omega)
  have b3 := add_tx (a := (kClb ++ numL n) ++ [32]) (b := numL k) (by rw [List.length_append, List.length_append, n_clb]; simp only [List.length_cons, List.length_nil]; omega)
  have rk : ∀ v, v < n → ∃ a b c, racks[v]? = some a ∧ rooms[v]? = some b ∧ rates[v]? = some c ∧ a ≤ 99 ∧ b ≤ 99 ∧ c ≤ 99 := fun v hv => by
    refine ⟨_, _, _, List.getElem?_eq_getElem (by rw [hcl.l1]; exact hv), List.getElem?_eq_getElem (by rw [hcl.l2]; exact hv), List.getElem?_eq_getElem (by rw [hcl.l3]; exact hv), hcl.b1 _ (List.getElem_mem _), hcl.b2 _ (List.getElem_mem _), ?_⟩
    have := (hcl.b3 _ (List.getElem_mem (by rw [hcl.l3]; exact hv : v < rates.length))).2
    exact Nat.le_trans this (by decide)
  have e0 : [P.str (tx ((kClb ++ numL n) ++ [32] ++ numL k))] = strL [wLine n k] := rfl
  unfold F__law_lines_4c5b B__law_lines_4c5b clT
  simp_arith [hr, nL_len, hwl, str_n (n := n) (by omega), str_n (n := k) (by omega), l_clb, l_blank, b1, b2, b3, g_rngN (k := n) (by omega)]
  rw [e0]
  generalize e : forL _ _ _ _ _ = r
  obtain ⟨ρ, η, rfl, ⟨q4, q5, q6, rfl⟩, rfl⟩ := for_done e (fun i ρ η => (∃ q4 q5 q6, ρ = [some (.p (.tup [.tup (nL racks), .tup (nL rooms), .tup (nL rates)])), some (.p (.tup (nL ws))), some (.p (.tup (plL pl))), some (.ref 0), q4, q5, q6]) ∧ η = [.ls (strL (wLine n k :: sLines racks rooms rates i))]) ⟨⟨_, _, _, rfl⟩, rfl⟩ (by
    rintro v x ρ η hx ⟨⟨q4, q5, q6, rfl⟩, rfl⟩
    obtain ⟨rfl, hv⟩ := range_get hx
    obtain ⟨a, b, c, ha, hb', hc, la, lb, lc⟩ := rk v hv
    have hz : (0 : Int) + ((v : Nat) : Int) = ((v : Nat) : Int) := Int.zero_add _
    have g1 : atI (nL racks) ((v : Nat) : Int) = some (.int (a : Nat)) := atI_nat (by rw [nL_map, List.getElem?_map, ha]; rfl)
    have g2 : atI (nL rooms) ((v : Nat) : Int) = some (.int (b : Nat)) := atI_nat (by rw [nL_map, List.getElem?_map, hb']; rfl)
    have g3 : atI (nL rates) ((v : Nat) : Int) = some (.int (c : Nat)) := atI_nat (by rw [nL_map, List.getElem?_map, hc]; rfl)
    have hns : ∀ v ∈ [a, b, c], v ≤ 99 := by intro v hv; simp at hv; rcases hv with rfl | rfl | rfl <;> assumption
    have hj := join_g (c := [32]) (ws := numW [a, b, c]) (by have := numW_sum hns; unfold numW at this ⊢; simp only [List.length_cons, List.length_nil, List.length_map] at this ⊢; omega)
    have hjl := numJ_le (c := 32) hns
    have ha2 := add_tx (a := kStb) (b := joinL [32] (numW [a, b, c])) (by simp only [n_stb, List.length_cons, List.length_nil] at hjl ⊢; omega)
    have zA : (strL (wLine n k :: sLines racks rooms rates v)).length < sizeLine := small' (by rw [strL_len]; unfold sLines; simp; omega)
    have sA : strL (wLine n k :: sLines racks rooms rates v) ++ [P.str (tx (kStb ++ joinL [32] (numW [a, b, c])))] = strL (wLine n k :: sLines racks rooms rates (v + 1)) := by
      rw [strL_app]
      congr 1
      unfold sLines
      rw [List.range_succ, List.map_append, List.map_cons, List.map_nil, ha, hb', hc]
      rfl
    have cm : ∀ {t : TM} {m : EM} {ρ : LEnv} {η : RH}, (∀ l ∈ [racks, rooms, rates], ∃ x : Nat, l[v]? = some x ∧ stC t m (tgS (.nm 5) (.p (.tup (nL l))) ρ) η = .ok (some (.str (tx (numL x)))) η) → compL (.nm 5) t m ρ [.tup (nL racks), .tup (nL rooms), .tup (nL rates)] η = .ok ((numW [a, b, c]).map fun w => .str (tx w)) η := fun {t m ρ η} h => by
      have := compMap (t := .nm 5) (tt := t) (te := m) (ρ0 := ρ) (η := η) (l := [racks, rooms, rates]) (enc := fun l => P.tup (nL l)) (fun l => .str (tx (numL (l[v]?.getD 0)))) (fun l hl => by
        obtain ⟨x, hx, hs⟩ := h l hl
        rw [hs, hx]; rfl)
      rw [show [P.tup (nL racks), .tup (nL rooms), .tup (nL rates)] = [racks, rooms, rates].map (fun l => P.tup (nL l)) from rfl, this]
      show Res.ok [P.str (tx (numL (racks[v]?.getD 0))), .str (tx (numL (rooms[v]?.getD 0))), .str (tx (numL (rates[v]?.getD 0)))] η = _
      rw [ha, hb', hc]
      rfl
    simp_arith [hz, l_blank, l_stb]
    rw [KComp_ok (small (by simp)), cm (by
      intro l hl
      have hx : ∃ x : Nat, l[v]? = some x ∧ x ≤ 99 := by
        simp only [List.mem_cons, List.not_mem_nil, or_false] at hl
        rcases hl with rfl | rfl | rfl
        · exact ⟨a, ha, la⟩
        · exact ⟨b, hb', lb⟩
        · exact ⟨c, hc, lc⟩
      obtain ⟨x, hx, hx9⟩ := hx
      have g : atI (nL l) ((v : Nat) : Int) = some (.int (x : Nat)) := atI_nat (by rw [nL_map, List.getElem?_map, hx]; rfl)
      refine ⟨x, hx, ?_⟩
      simp_arith [g, str_n (n := x) (by omega)])]
    simp_arith [hj, ha2, app_ls zA, sA]
    exact ⟨⟨_, _, _, rfl⟩, by first | rfl | trivial⟩)
  clear e
  rw [range_len]
  simp_arith [nL_len, hwl, g_rngN (k := k) (by omega)]
  generalize e : forL _ _ _ _ _ = r
  obtain ⟨ρ, η, rfl, ⟨q0, q4, q5, q6, rfl⟩, rfl⟩ := for_done e (fun i ρ η => (∃ q0 q4 q5 q6, ρ = [q0, some (.p (.tup (nL ws))), some (.p (.tup (plL pl))), some (.ref 0), q4, q5, q6]) ∧ η = [.ls (strL (wLine n k :: (sLines racks rooms rates n ++ pLines ws pl i)))]) ⟨⟨_, _, _, _, rfl⟩, by unfold pLines; simp⟩ (by
    rintro i x ρ η hx ⟨⟨q0, q4, q5, q6, rfl⟩, rfl⟩
    obtain ⟨rfl, hil⟩ := range_get hx
    have hz : (0 : Int) + ((i : Nat) : Int) = ((i : Nat) : Int) := Int.zero_add _
    have hi1 : i < ws.length := by omega
    have hi2 : i < pl.length := by omega
    have hg := gp _ (List.getElem_mem hi2)
    have wb := (hw.b ws[i] (List.getElem_mem hi1)).2
    have l99 : ∀ v ∈ pl[i], v ≤ 99 := fun v hv => by have := hg.lt v hv; omega
    have ll : (pl[i]).length ≤ 8 := Nat.le_trans (up_len hg.up hg.lt) h8
    have hat : atI (plL pl) ((i : Nat) : Int) = some (.tup (nL pl[i])) := atI_nat (plL_get (List.getElem?_eq_getElem hi2))
    have hat2 := nL_at hi1
    have hjl := numJ_le (c := 44) l99
    have hsum := numW_sum l99
    have hnw : (numW pl[i]).length = (pl[i]).length := List.length_map ..
    have hj := join_g (c := [44]) (ws := numW pl[i]) (by rw [hnw]; simp only [List.length_cons, List.length_nil]; omega)
    have n1 := num_len (n := ws[i]) (by omega)
    have d1 := add_tx (a := kPib) (b := numL ws[i]) (by rw [n_pib]; omega)
    have d2 := add_tx (a := kPib ++ numL ws[i]) (b := [32]) (by rw [List.length_append, n_pib]; simp only [List.length_cons, List.length_nil]; omega)
    have d3 := add_tx (a := kPib ++ numL ws[i] ++ [32]) (b := joinL [44] (numW pl[i])) (by rw [List.length_append, List.length_append, n_pib]; simp only [List.length_cons, List.length_nil]; omega)
    have zA : (strL (wLine n k :: (sLines racks rooms rates n ++ pLines ws pl i))).length < sizeLine := small' (by rw [strL_len]; unfold sLines pLines; simp; omega)
    have sA : strL (wLine n k :: (sLines racks rooms rates n ++ pLines ws pl i)) ++ [P.str (tx (kPib ++ numL ws[i] ++ [32] ++ joinL [44] (numW pl[i])))] = strL (wLine n k :: (sLines racks rooms rates n ++ pLines ws pl (i + 1))) := by
      rw [strL_app]
      congr 1
      unfold pLines
      rw [List.range_succ, List.map_append, List.map_cons, List.map_nil, List.getElem?_eq_getElem hi1, List.getElem?_eq_getElem hi2, List.cons_append, List.append_assoc]
      rfl
    simp_arith [hz, l_pib, l_blank, l_comma, hat2, str_n (n := ws[i]) (by omega), hat, d1, d2]
    rw [KComp_ok (small (by rw [nL_len]; omega)), strs_run (by
      intro u hu
      simp_arith [str_n (n := u) (by have := l99 u hu; omega)])]
    simp_arith [hj, d3, app_ls zA, sA]
    exact ⟨⟨_, _, _, _, rfl⟩, by first | rfl | trivial⟩)
  clear e
  rw [range_len]
  have hL : wLine n k :: (sLines racks rooms rates n ++ pLines ws pl k) = worldLs racks rooms rates ws pl := by unfold worldLs; rw [hr, hwl]
  rw [hL]
  simp_arith []
theorem right_run (hcl : GoodCl n racks rooms rates) (hw : GoodW k ws) (hk : k ≤ 40) (hb : pl.length = k) (gp : GoodPl n pl) :
    F__law_right_9b4e [clT racks rooms rates, .tup (nL ws), .tup (plL pl)] = .ok (.bl true) := by
  have L1 := law_lines_run hcl hw (show k ≤ 99 by omega) hb gp
  have W1 := write_world_run hcl hw (show k ≤ 99 by omega) hb gp
  have hlw := len_world hcl hw (show k ≤ 99 by omega) hb gp
  have R1 := read_world_run (text := joinL [10] (worldLs racks rooms rates ws pl)) (by omega) asc_world
  rw [read_written hcl hw hk hb gp] at R1
  have J1 := join_lf (lines_len hcl hw (show k ≤ 99 by omega) hb gp) (by rw [lines_many hcl hw]; have := hcl.le; omega)
  have I1 := init_run hcl
  have K1 := like_same 20 (.str (tx (joinL [10] (worldLs racks rooms rates ws pl)))) (lk_tx asc_world)
  have l1 := hcl.l1
  have l2 := hcl.l2
  have l3 := hcl.l3
  have h8 := hcl.le
  have hwl := hw.len
  have K2 := like_same 20 (.tup [.tup (nL racks), .tup (nL rooms), .tup (nL rates)]) (lk_tup (by simp) fun y hy => by
    simp only [List.mem_cons, List.not_mem_nil, or_false] at hy
    rcases hy with rfl | rfl | rfl <;> exact lk_tup (by rw [nL_len]; omega) fun y hy => lk_nL y hy)
  have K3 := like_same 20 (.tup [.tup (nL ws), .tup (plL pl)]) (lk_tup (by simp) fun y hy => by
    simp only [List.mem_cons, List.not_mem_nil, or_false] at hy
    rcases hy with rfl | rfl
    · exact lk_tup (by rw [nL_len]; omega) fun y hy => lk_nL y hy
    · refine lk_tup (by rw [plL_len]; omega) fun y hy => ?_
      unfold plL at hy
      obtain ⟨l, hl, rfl⟩ := List.mem_map.mp hy
      have hg := gp l hl
      exact lk_tup (by rw [nL_len]; have := up_len hg.up hg.lt; omega) fun y hy => lk_nL y hy)
  have f1 : ∀ η : RH, attR "racks" (ixL [(20, 0)]) η (.p (clP racks rooms rates)) = .ok (.p (.tup (nL racks))) η := fun _ => rfl
  have f2 : ∀ η : RH, attR "rooms" (ixL [(20, 1)]) η (.p (clP racks rooms rates)) = .ok (.p (.tup (nL rooms))) η := fun _ => rfl
  have f3 : ∀ η : RH, attR "rates" (ixL [(20, 2)]) η (.p (clP racks rooms rates)) = .ok (.p (.tup (nL rates))) η := fun _ => rfl
  have is1 : isoP 20 (clP racks rooms rates) = some (.bl true) := rfl
  have cut1 : cutP [clP racks rooms rates, .tup (nL ws), .tup (plL pl)] (some 1) none = [.tup (nL ws), .tup (plL pl)] := by rw [cd1]; rfl
  have n3 : eqG true (.int 3) (.int 3) = some (.bl false) := by rw [neg_t okN_int okN_int, eqv_int]; rfl
  have WI : F__law_world_is_8de4 [.tup [clP racks rooms rates, .tup (nL ws), .tup (plL pl)], clT racks rooms rates, .tup (nL ws), .tup (plL pl)] = .ok (.bl true) := by
    unfold F__law_world_is_8de4 B__law_world_is_8de4 clT
    simp_arith [is1, f1, f2, f3, K2, K3, cut1, Bool.not_true]
  unfold F__law_right_9b4e B__law_right_9b4e
  simp_arith [l_lf, L1, J1]
  unfold clT at L1 WI ⊢
  simp_arith [I1, W1, K1, R1, WI]
end
theorem law_true (ns : List Int) (h : ns.length ≤ 63) : F_law_7a00 [.fl (ns.map ML.P.int)] = .ok (.bl true) := by
  show F_law_7a00 [.fl (iL ns)] = _
  obtain ⟨ds, eds⟩ := draws_run (ns := ns) (k := 700) (by decide) (by omega)
  have eds : F__law_draws_f854 [.fl (iL ns), .int 700] = .ok (.fl (iL ds)) := eds
  unfold F_law_7a00 B_law_7a00
  have eh : [Ob.ls [P.fl (iL ds), .int 0]] = [hand ds 0] := rfl
  obtain ⟨n1, racks1, rooms1, rates1, a1, hn1, c1, e1⟩ := cluster_run (ds := ds) (at' := 0) (m := 8) (by decide) (by decide)
  obtain ⟨q1, hq1, f1⟩ := take_run (ds := ds) (at' := a1) (m := 6) (by decide)
  obtain ⟨q2, hq2, f2⟩ := take_run (ds := ds) (at' := a1 + 1) (m := 9) (by decide)
  have e1 : F__law_cluster_0997 [.ref 0, .p (.int 8)] [hand ds 0] = _ := e1
  have f1 : F__law_take_e5cf [.ref 0, .p (.int 6)] [hand ds a1] = _ := f1
  have f2 : F__law_take_e5cf [.ref 0, .p (.int 9)] [hand ds (a1 + 1)] = _ := f2
  obtain ⟨k, hk, ek⟩ : ∃ k : Nat, k ≤ 40 ∧ gIx (.fl [.int (q1 : Nat), .int 40]) (.int (((q2 : Nat) : Int) / 8)) = some (.int (k : Nat)) := by
    by_cases h8 : q2 < 8
    · refine ⟨q1, by omega, ?_⟩
      have : ((q2 : Nat) : Int) / 8 = ((0 : Nat) : Int) := by omega
      rw [this]
      exact atI_nat rfl
    · refine ⟨40, by omega, ?_⟩
      have : ((q2 : Nat) : Int) / 8 = ((1 : Nat) : Int) := by omega
      rw [this]
      exact atI_nat rfl
  have fd : fdivI (.int (q2 : Nat)) (.int 8) = some (.int (((q2 : Nat) : Int) / 8)) := g_fdiv ⟨by decide, by decide⟩
  obtain ⟨ws, a3, hw, e3⟩ := wishes_run (ds := ds) (at' := a1 + 1 + 1) (k := k) (by omega)
  obtain ⟨pl, a4, hpl, gpl, e4⟩ := placing_run (ds := ds) (at' := a3) (m := n1) (k := k) c1.pos (by omega) (by omega)
  obtain ⟨n2, racks2, rooms2, rates2, a5, hn2, c2, e5⟩ := cluster_run (ds := ds) (at' := a4) (m := 3) (by decide) (by decide)
  obtain ⟨ws2, a6, hw2, e6⟩ := wishes_run (ds := ds) (at' := a5) (k := 2) (by omega)
  obtain ⟨pl2, a7, hpl2, gpl2, e7⟩ := placing_run (ds := ds) (at' := a6) (m := n2) (k := 2) c2.pos (by omega) (by omega)
  have e5 : F__law_cluster_0997 [.ref 0, .p (.int 3)] [hand ds a4] = _ := e5
  have e6 : F__law_wishes_139d [.ref 0, .p (.int 2)] [hand ds a5] = _ := e6
  have e7 : F__law_placing_eb96 [.ref 0, .p (.int (n2 : Nat)), .p (.int 2)] [hand ds a6] = _ := e7
  have R1 := right_run c1 hw (by omega) hpl gpl
  have R2 := right_run c2 hw2 (by omega) hpl2 gpl2
  unfold clT at R1 R2
  simp_arith [eds]
  rw [eh]
  simp_arith [e1, f1, f2, fd, ek, e3, nL_len, c1.l1, e4, e5, e6, R1, c2.l1, e7, R2]
end K05
set_option Elab.async false
set_option linter.all false
set_option maxRecDepth 100000
open PySem PySem.W PyProof.Rows
set_option maxRecDepth 100000 in
set_option maxHeartbeats 0 in
theorem PySem.Challenge.cw_movedwhole_k05_texts_of_worlds_holds : PySem.Challenge.rw_movedwhole_k05_texts_of_worlds.Holds := by
  w_on; o_law; k_head; (case hw => w_witness2)
  k_fill
  refine ML.walk_ml (l := PySem.Challenge.rw_movedwhole_k05_texts_of_worlds) (st := K05.s_law) (k := 24) (F := U.F_law_7a00) (x := "_law_script") rfl rfl ⟨rfl, by decide, by decide⟩ (fun w h Y => PySem.W.kIn_of Y) (fun _ _ _ _ _ _ _ => rfl) ?F K05.law_true
  case F =>
    intro w mg h KX G
    have T : K05.Tops mg := by
      refine' ⟨PySem.W.mg_none_of KX G ?b_isinstance, PySem.W.mg_none_of KX G ?b_int, PySem.W.mg_none_of KX G ?b_bool, PySem.W.mg_none_of KX G ?b_len, PySem.W.mg_none_of KX G ?b_all, PySem.W.mg_none_of KX G ?b_range, PySem.W.mg_none_of KX G ?b_tuple, PySem.W.mg_none_of KX G ?b_str, PySem.W.mg_none_of KX G ?b_enumerate, PySem.W.mg_none_of KX G ?b_zip, PySem.W.mg_none_of KX G ?b_abs, PySem.W.mg_none_of KX G ?b_list, ML.use_int KX G ?g_MOST_FIGURES, ML.use_int KX G ?g_MOST_WISH, ML.use_int KX G ?g_MOST_STORES, ML.use_int KX G ?g_MOST_NUMBER, ML.use_int KX G ?g_MOST_RATE, ML.use_int KX G ?g_MOST_PIECES⟩
      (case b_isinstance => k_is)
      (case b_int => k_is)
      (case b_bool => k_is)
      (case b_len => k_is)
      (case b_all => k_is)
      (case b_range => k_is)
      (case b_tuple => k_is)
      (case b_str => k_is)
      (case b_enumerate => k_is)
      (case b_zip => k_is)
      (case b_abs => k_is)
      (case b_list => k_is)
      (case g_MOST_FIGURES => k_is)
      (case g_MOST_WISH => k_is)
      (case g_MOST_STORES => k_is)
      (case g_MOST_NUMBER => k_is)
      (case g_MOST_RATE => k_is)
      (case g_MOST_PIECES => k_is)
    refine' ML.use_cls KX G "Cluster" ["racks", "rooms", "rates", "store_count"] ?ka0 ?kb0 ?kc0 ?kd0 ?ke0 ?kf0 ?kg0
    (case ka0 => k_is)
    (case kb0 => k_is)
    (case kc0 => k_is)
    (case kd0 => k_is)
    (case ke0 => k_is)
    (case kf0 => exact ⟨by k_is, by k_is, by k_is, by k_is, trivial⟩)
    intro C_Cluster
    refine' ML.use_def KX G "is_from_to" K05.s_is_from_to ["value", "least", "most"] (fun _ _ _ _ _ _ us hl => match us, hl with | [_, _, _], _ => rfl) ?a0 ?l0 ?c0 ?k0 ?n0
    (case a0 => k_is); (case l0 => k_is); (case c0 => k_is); (case k0 => k_is)
    intro D_is_from_to
    refine' ML.use_def KX G "integer_told" K05.s_integer_told ["word"] (fun _ _ _ _ _ _ us hl => match us, hl with | [_], _ => rfl) ?a1 ?l1 ?c1 ?k1 ?n1
    (case a1 => k_is); (case l1 => k_is); (case c1 => k_is); (case k1 => k_is)
    intro D_integer_told
    refine' ML.use_def KX G "lot_told" K05.s_lot_told ["word", "store_count"] (fun _ _ _ _ _ _ us hl => match us, hl with | [_, _], _ => rfl) ?a2 ?l2 ?c2 ?k2 ?n2
    (case a2 => k_is); (case l2 => k_is); (case c2 => k_is); (case k2 => k_is)
    intro D_lot_told
    refine' ML.use_def KX G "lot_text" K05.s_lot_text ["lot"] (fun _ _ _ _ _ _ us hl => match us, hl with | [_], _ => rfl) ?a3 ?l3 ?c3 ?k3 ?n3
    (case a3 => k_is); (case l3 => k_is); (case c3 => k_is); (case k3 => k_is)
    intro D_lot_text
    refine' ML.use_def KX G "begins" K05.s_begins ["lines"] (fun _ _ _ _ _ _ us hl => match us, hl with | [_], _ => rfl) ?a4 ?l4 ?c4 ?k4 ?n4
    (case a4 => k_is); (case l4 => k_is); (case c4 => k_is); (case k4 => k_is)
    intro D_begins
    refine' ML.use_def KX G "write_world" K05.s_write_world ["cluster", "wishes", "placing"] (fun _ _ _ _ _ _ us hl => match us, hl with | [_, _, _], _ => rfl) ?a5 ?l5 ?c5 ?k5 ?n5
    (case a5 => k_is); (case l5 => k_is); (case c5 => k_is); (case k5 => k_is)
    intro D_write_world
    refine' ML.use_def KX G "_numbers" K05.s__numbers ["line", "first", "bounds"] (fun _ _ _ _ _ _ us hl => match us, hl with | [_, _, _], _ => rfl) ?a6 ?l6 ?c6 ?k6 ?n6
    (case a6 => k_is); (case l6 => k_is); (case c6 => k_is); (case k6 => k_is)
    intro D__numbers
    refine' ML.use_def KX G "_piece" K05.s__piece ["line", "store_count"] (fun _ _ _ _ _ _ us hl => match us, hl with | [_, _], _ => rfl) ?a7 ?l7 ?c7 ?k7 ?n7
    (case a7 => k_is); (case l7 => k_is); (case c7 => k_is); (case k7 => k_is)
    intro D__piece
    refine' ML.use_def KX G "_law_draws" K05.s__law_draws ["_law_script", "_law_many"] (fun _ _ _ _ _ _ us hl => match us, hl with | [_, _], _ => rfl) ?a8 ?l8 ?c8 ?k8 ?n8
    (case a8 => k_is); (case l8 => k_is); (case c8 => k_is); (case k8 => k_is)
    intro D__law_draws
    refine' ML.use_def KX G "_law_take" K05.s__law_take ["_law_hand", "_law_many"] (fun _ _ _ _ _ _ us hl => match us, hl with | [_, _], _ => rfl) ?a9 ?l9 ?c9 ?k9 ?n9
    (case a9 => k_is); (case l9 => k_is); (case c9 => k_is); (case k9 => k_is)
    intro D__law_take
    refine' ML.use_def KX G "_law_like" K05.s__law_like ["_law_found", "_law_due"] (fun _ _ _ _ _ _ us hl => match us, hl with | [_, _], _ => rfl) ?a10 ?l10 ?c10 ?k10 ?n10
    (case a10 => k_is); (case l10 => k_is); (case c10 => k_is); (case k10 => k_is)
    intro D__law_like
    refine' ML.use_def KX G "_law_cluster" K05.s__law_cluster ["_law_hand", "_law_most"] (fun _ _ _ _ _ _ us hl => match us, hl with | [_, _], _ => rfl) ?a11 ?l11 ?c11 ?k11 ?n11
    (case a11 => k_is); (case l11 => k_is); (case c11 => k_is); (case k11 => k_is)
    intro D__law_cluster
    refine' ML.use_def KX G "_law_lot" K05.s__law_lot ["_law_hand", "_law_many"] (fun _ _ _ _ _ _ us hl => match us, hl with | [_, _], _ => rfl) ?a12 ?l12 ?c12 ?k12 ?n12
    (case a12 => k_is); (case l12 => k_is); (case c12 => k_is); (case k12 => k_is)
    intro D__law_lot
    refine' ML.use_def KX G "_law_wishes" K05.s__law_wishes ["_law_hand", "_law_pieces"] (fun _ _ _ _ _ _ us hl => match us, hl with | [_, _], _ => rfl) ?a13 ?l13 ?c13 ?k13 ?n13
    (case a13 => k_is); (case l13 => k_is); (case c13 => k_is); (case k13 => k_is)
    intro D__law_wishes
    refine' ML.use_def KX G "_law_placing" K05.s__law_placing ["_law_hand", "_law_many", "_law_pieces"] (fun _ _ _ _ _ _ us hl => match us, hl with | [_, _, _], _ => rfl) ?a14 ?l14 ?c14 ?k14 ?n14
    (case a14 => k_is); (case l14 => k_is); (case c14 => k_is); (case k14 => k_is)
    intro D__law_placing
    refine' ML.use_def KX G "_law_lines" K05.s__law_lines ["_law_cluster_here", "_law_wishes_here", "_law_placing_here"] (fun _ _ _ _ _ _ us hl => match us, hl with | [_, _, _], _ => rfl) ?a15 ?l15 ?c15 ?k15 ?n15
    (case a15 => k_is); (case l15 => k_is); (case c15 => k_is); (case k15 => k_is)
    intro D__law_lines
    refine' ML.use_inC C_Cluster "Cluster.__init__" K05.s_Cluster___init__ ["self", "racks", "rooms", "rates"] (fun _ _ _ _ _ _ us hl => match us, hl with | [_, _, _, _], _ => rfl) ?a16 ?i16 ?l16 ?c16 ?k16 ?m16 ?kc16x ?n16
    (case a16 => k_is); (case i16 => k_is); (case l16 => k_is); (case c16 => k_is); (case k16 => k_is); (case m16 => k_is); (case kc16x => k_is)
    intro D_Cluster___init__
    refine' ML.use_def KX G "read_world" K05.s_read_world ["text"] (fun _ _ _ _ _ _ us hl => match us, hl with | [_], _ => rfl) ?a17 ?l17 ?c17 ?k17 ?n17
    (case a17 => k_is); (case l17 => k_is); (case c17 => k_is); (case k17 => k_is)
    intro D_read_world
    refine' ML.use_def KX G "_law_world_is" K05.s__law_world_is ["_law_found", "_law_cluster_here", "_law_wishes_here", "_law_placing_here"] (fun _ _ _ _ _ _ us hl => match us, hl with | [_, _, _, _], _ => rfl) ?a18 ?l18 ?c18 ?k18 ?n18
    (case a18 => k_is); (case l18 => k_is); (case c18 => k_is); (case k18 => k_is)
    intro D__law_world_is
    refine' ML.use_def KX G "_law_right" K05.s__law_right ["_law_cluster_here", "_law_wishes_here", "_law_placing_here"] (fun _ _ _ _ _ _ us hl => match us, hl with | [_, _, _], _ => rfl) ?a19 ?l19 ?c19 ?k19 ?n19
    (case a19 => k_is); (case l19 => k_is); (case c19 => k_is); (case k19 => k_is)
    intro D__law_right
    refine' ML.use_def KX G "law" K05.s_law ["_law_script"] (fun _ _ _ _ _ _ us hl => match us, hl with | [_], _ => rfl) ?a20 ?l20 ?c20 ?k20 ?n20
    (case a20 => k_is); (case l20 => k_is); (case c20 => k_is); (case k20 => k_is)
    intro D_law
    refine' ML.use_exc2 KX G (PySem.Challenge.rw_movedwhole_k05_texts_of_worlds).prog "InvalidCluster" "InvalidCluster.__init__" ((ML.clsBody (K05.topS 3)).getD 0 (.Pass ⟨0, 0, 0, 0⟩)) "part" "place" "self" "part" "place" (N := ["self", "part", "place", "__class__"]) (by decide +kernel) (by rfl) rfl rfl rfl (by decide) (by decide) (by decide) (by decide) (by decide) (by decide) (by rfl) (fun _ _ _ _ => by rfl) (fun _ _ _ _ => by rfl) (fun _ _ _ _ _ _ _ us hl => match us, hl with | [_, _, _], _ => rfl) ⟨_, rfl, rfl⟩ (by rfl) ?xa0 ?xo0 ?xb0 ?xs0 ?xe0 ?xt0 ?xk0 ?xga0 ?xgg0 ?xh0 ?xno0_0 ?xno1_0 ?xi0 ?xti0 ?xl0 ?xc0 ?xlc0 ?xv0 ?xf0 ?xlcc0 ?xcl0 ?xsub0 ?xm0 ?xop0 ?xhm0 ?xom0 ?xmm0 ?xn0 ?xis0 ?xgo0
    (case xa0 => k_is)
    (case xo0 => k_is)
    (case xb0 => decide +kernel)
    (case xs0 => k_is)
    (case xe0 => k_is)
    (case xt0 => k_is)
    (case xk0 => k_is)
    (case xga0 => k_is)
    (case xgg0 => k_is)
    (case xh0 => k_is)
    (case xno0_0 => k_is)
    (case xno1_0 => k_is)
    (case xi0 => k_is)
    (case xti0 => k_is)
    (case xl0 => k_is)
    (case xc0 => k_is)
    (case xlc0 => k_is)
    (case xv0 => rfl)
    (case xf0 => decide +kernel)
    (case xlcc0 => k_is)
    (case xcl0 => k_is)
    (case xsub0 => k_is)
    (case xm0 => k_is)
    (case xop0 => k_is)
    (case xhm0 => rfl)
    (case xom0 => k_is)
    (case xmm0 => rfl)
    (case xn0 => k_is)
    (case xis0 => k_is)
    intro X_InvalidCluster
    refine' ML.use_exc2 KX G (PySem.Challenge.rw_movedwhole_k05_texts_of_worlds).prog "InvalidText" "InvalidText.__init__" ((ML.clsBody (K05.topS 4)).getD 0 (.Pass ⟨0, 0, 0, 0⟩)) "text" "at" "self" "text" "at" (N := ["self", "text", "at", "__class__"]) (by decide +kernel) (by rfl) rfl rfl rfl (by decide) (by decide) (by decide) (by decide) (by decide) (by decide) (by rfl) (fun _ _ _ _ => by rfl) (fun _ _ _ _ => by rfl) (fun _ _ _ _ _ _ _ us hl => match us, hl with | [_, _, _], _ => rfl) ⟨_, rfl, rfl⟩ (by rfl) ?xa1 ?xo1 ?xb1 ?xs1 ?xe1 ?xt1 ?xk1 ?xga1 ?xgg1 ?xh1 ?xno0_1 ?xno1_1 ?xi1 ?xti1 ?xl1 ?xc1 ?xlc1 ?xv1 ?xf1 ?xlcc1 ?xcl1 ?xsub1 ?xm1 ?xop1 ?xhm1 ?xom1 ?xmm1 ?xn1 ?xis1 ?xgo1
    (case xa1 => k_is)
    (case xo1 => k_is)
    (case xb1 => decide +kernel)
    (case xs1 => k_is)
    (case xe1 => k_is)
    (case xt1 => k_is)
    (case xk1 => k_is)
    (case xga1 => k_is)
    (case xgg1 => k_is)
    (case xh1 => k_is)
    (case xno0_1 => k_is)
    (case xno1_1 => k_is)
    (case xi1 => k_is)
    (case xti1 => k_is)
    (case xl1 => k_is)
    (case xc1 => k_is)
    (case xlc1 => k_is)
    (case xv1 => rfl)
    (case xf1 => decide +kernel)
    (case xlcc1 => k_is)
    (case xcl1 => k_is)
    (case xsub1 => k_is)
    (case xm1 => k_is)
    (case xop1 => k_is)
    (case xhm1 => rfl)
    (case xom1 => k_is)
    (case xmm1 => rfl)
    (case xn1 => k_is)
    (case xis1 => k_is)
    intro X_InvalidText
    have I_Cluster := ML.isC_of C_Cluster (by k_is) (by k_is) (by k_is) (by k_is) (by kit_is) (by kit_is) (by kit_is) (by kit_is) (by kit_is) (by kit_is)
    exact ⟨D_law, fun base KB GB => ⟨⟨ML.KOf KX, ML.clsL [(1, _), (10, _), (20, _)], ML.fldL [(1, ["place", "part"]), (10, ["at", "text"]), (20, ["racks", "rooms", "rates", "store_count"])], none, NestedKey.hash w⟩, rfl, K05.all_has T ⟨rfl, X_InvalidCluster.g2 1 rfl rfl, X_InvalidText.g2 10 rfl rfl⟩ ⟨C_Cluster.g 20 rfl rfl, I_Cluster⟩ D_is_from_to D_integer_told D_lot_told D_lot_text D_begins D_write_world D__numbers D__piece D__law_draws D__law_take D__law_like D__law_cluster D__law_lot D__law_wishes D__law_placing D__law_lines D_Cluster___init__ D_read_world D__law_world_is D__law_right D_law⟩⟩
