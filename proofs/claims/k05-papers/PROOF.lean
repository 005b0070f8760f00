import PyProof.Rows.All
import Wide.All
import OpenK.AllK
import Wide.FinOn
import HandS.ForMost
import HandS.ForExc
import HandS.Flow
import HandS.Style
import HandS.IsInst
import HandS.Deep
import HandS.TupAny
import HandS.TupMul
import HandS.TupLe
import HandS.Zip
import HandS.StrMore
import HandS.Conv
import HandS.SortOrd
import KE.SortData
import KE.DataMinMax
import KE.DataCmp
import KE.GoesEnum
import KE.KTupSum
import KE.KDictCopyH
import KE.KDictDisplayH
import HandS.More
import HandS.ExcCtx
import HandS.HotCalls
import HandS.ExcIs
import HandS.ReplaceLit
import HandS.ReplaceDef
import HandS.ReplaceList
import HandS.TupSets
import PySem.Challenge.RW_stonetexts_k05_papers
set_option Elab.async false
set_option linter.all false
set_option maxRecDepth 100000
set_option autoImplicit true
set_option maxHeartbeats 5000000
section
/-! DL: a layer of plain data over the hand layer. D: data without addresses; Da: a value stands for a datum, in the frozen part F of the heap. -/
namespace DL
open PySem PySem.Spec L2
open PyProof.Rows hiding St

/-- what is fixed along a walk: the module's part of the heap, the program, the world -/
structure Kf where
  K : PySem.W.Frag
  P : Program
  w : World
instance : Coe Kf PySem.W.Frag := ⟨Kf.K⟩
end DL
abbrev L2.Cx.kf (X : L2.Cx) : DL.Kf := ⟨X.K, X.prog, X.w⟩
namespace DL
open PySem PySem.Spec L2
open PyProof.Rows hiding St
/-! ### data -/
inductive D where
  | non | bl (b : Bool) | int (i : Int) | str (l : List Nat) | lst (xs : List D) | tup (xs : List D)
  | scr (ns : List Int)
  /-- a dict with numbers or texts as keys, that is not changed any more -/
  | dic (ks : List Key) (xs : List D)
  /-- a tuple that has no dict of its own -/
  | btp (xs : List D)

abbrev mkS (l : List Nat) : Str := ⟨l.toArray⟩
theorem mkS_tl (x : Str) : mkS (TL.tl x) = x := TL.mk_tl x
theorem mkS_inj {a b : List Nat} (h : mkS a = mkS b) : a = b := by
  have := congrArg TL.tl h
  simpa [mkS, TL.tl] using this

mutual
inductive Da (K : Kf) (F : Hp) : V → D → Prop
  | non : Da K F .non .non
  | bl (b : Bool) : Da K F (.bl b) (.bl b)
  | int (i : Int) : Da K F (.int i) (.int i)
  | str (l : List Nat) : Da K F (.str (mkS l)) (.str l)
  | lst {a : Addr} {vs : List V} {ds : List D} : F a = some (.lst vs) → Das K F vs ds → Da K F (.ref a) (.lst ds)
  | tup {a : Addr} {vs : List V} {ds : List D} : SqT K F a vs → Das K F vs ds → Da K F (.ref a) (.tup ds)
  | scr {a : Addr} {ns : List Int} : SqL K F a (ns.map V.int) → Da K F (.ref a) (.scr ns)
  | dic {a : Addr} {ks : List Key} {vs : List V} {ds : List D} : F a = some (.dK (ks.zip vs)) → ks.length = vs.length → Das K F vs ds → Da K F (.ref a) (.dic ks ds)
  | btp {a : Addr} {o : Obj} {vs : List V} {ds : List D} : F a = some (.frz o (.tup vs)) → o.dict = none → Das K F vs ds → Da K F (.ref a) (.btp ds)
inductive Das (K : Kf) (F : Hp) : List V → List D → Prop
  | nil : Das K F [] []
  | cons {v : V} {vs : List V} {d : D} {ds : List D} : Da K F v d → Das K F vs ds → Das K F (v :: vs) (d :: ds)
end

section
variable {K : Kf} {F F' H H' : Hp}
theorem sqT_same {a : Addr} {xs : List V} (e : Same H H') (h : SqT K H a xs) : SqT K H' a xs := by
  rcases h with (h | ⟨o, h⟩) | h
  · exact .inl (.inl (e _ _ h))
  · exact .inl (.inr ⟨o, e _ _ h⟩)
  · exact .inr h
mutual
theorem Da.same (e : Same F F') : ∀ {d : D} {v : V}, Da K F v d → Da K F' v d
  | .non, _, .non => .non
  | .bl b, _, .bl _ => .bl b
  | .int i, _, .int _ => .int i
  | .str l, _, .str _ => .str l
  | .lst ds, _, .lst h q => .lst (e _ _ h) (Das.same e q)
  | .tup ds, _, .tup h q => .tup (sqT_same e h) (Das.same e q)
  | .scr ns, _, .scr h => .scr (e.seq h)
  | .dic ks ds, _, .dic h l q => .dic (e _ _ h) l (Das.same e q)
  | .btp ds, _, .btp h n q => .btp (e _ _ h) n (Das.same e q)
theorem Das.same (e : Same F F') : ∀ {ds : List D} {vs : List V}, Das K F vs ds → Das K F' vs ds
  | [], _, .nil => .nil
  | d :: ds, _, .cons h q => .cons (Da.same e h) (Das.same e q)
end
theorem Das.length : ∀ {vs : List V} {ds : List D}, Das K F vs ds → vs.length = ds.length
  | _, _, .nil => rfl
  | _, _, .cons _ q => by rw [List.length_cons, List.length_cons, Das.length q]
theorem Das.append : ∀ {vs ws : List V} {ds es : List D}, Das K F vs ds → Das K F ws es → Das K F (vs ++ ws) (ds ++ es)
  | _, _, _, _, .nil, q => q
  | _, _, _, _, .cons h t, q => .cons h (Das.append t q)
theorem Das.get : ∀ {vs : List V} {ds : List D} {i : Nat} {d : D}, Das K F vs ds → ds[i]? = some d → ∃ v, vs[i]? = some v ∧ Da K F v d
  | _, _, _, _, .nil, h => by simp at h
  | _, _, 0, _, .cons h _, e => by simp at e; subst e; exact ⟨_, rfl, h⟩
  | _, _, i + 1, d, .cons _ t, e => by
    obtain ⟨v, e1, e2⟩ := Das.get (i := i) (d := d) t (by simpa using e)
    exact ⟨v, by simpa using e1, e2⟩
theorem Das.get' : ∀ {vs : List V} {ds : List D} {i : Nat} {v : V}, Das K F vs ds → vs[i]? = some v → ∃ d, ds[i]? = some d ∧ Da K F v d
  | _, _, _, _, .nil, h => by simp at h
  | _, _, 0, _, .cons h _, e => by simp at e; subst e; exact ⟨_, rfl, h⟩
  | _, _, i + 1, d, .cons _ t, e => by
    obtain ⟨v, e1, e2⟩ := Das.get' (i := i) (v := d) t (by simpa using e)
    exact ⟨v, by simpa using e1, e2⟩
theorem Das.drop : ∀ {vs : List V} {ds : List D} (n : Nat), Das K F vs ds → Das K F (vs.drop n) (ds.drop n)
  | _, _, 0, q => q
  | _, _, _ + 1, .nil => .nil
  | _, _, n + 1, .cons _ q => Das.drop n q
theorem Das.take : ∀ {vs : List V} {ds : List D} (n : Nat), Das K F vs ds → Das K F (vs.take n) (ds.take n)
  | _, _, 0, _ => .nil
  | _, _, _ + 1, .nil => .nil
  | _, _, n + 1, .cons h q => .cons h (Das.take n q)
theorem Das.reverse : ∀ {vs : List V} {ds : List D}, Das K F vs ds → Das K F vs.reverse ds.reverse
  | _, _, .nil => .nil
  | _, _, .cons h q => by
    rw [List.reverse_cons, List.reverse_cons]
    exact (Das.reverse q).append (.cons h .nil)
theorem Das.rep {vs : List V} {ds : List D} (h : Das K F vs ds) : ∀ n : Nat, Das K F (List.replicate n vs).flatten (List.replicate n ds).flatten
  | 0 => .nil
  | n + 1 => by
    rw [List.replicate_succ, List.replicate_succ, List.flatten_cons, List.flatten_cons]
    exact h.append (Das.rep h n)
theorem Das.dropLast : ∀ {vs : List V} {ds : List D}, Das K F vs ds → Das K F vs.dropLast ds.dropLast
  | vs, ds, h => by
    rw [List.dropLast_eq_take, List.dropLast_eq_take, h.length]
    exact h.take _
theorem Das.eraseIdx : ∀ {vs : List V} {ds : List D} (i : Nat), Das K F vs ds → Das K F (vs.eraseIdx i) (ds.eraseIdx i)
  | _, _, _, .nil => .nil
  | _, _, 0, .cons _ q => q
  | _, _, i + 1, .cons h q => .cons h (Das.eraseIdx i q)
theorem Das.ints : ∀ (ns : List Int), Das K F (ns.map V.int) (ns.map D.int)
  | [] => .nil
  | n :: ns => .cons (.int n) (Das.ints ns)
theorem Das.of_ints : ∀ {ns : List Int} {vs : List V}, Das K F vs (ns.map D.int) → vs = ns.map V.int
  | [], _, .nil => rfl
  | n :: ns, _, .cons h q => by
    cases h
    rw [Das.of_ints q]
    rfl
theorem Das.of_strs : ∀ {ls : List (List Nat)} {vs : List V}, Das K F vs (ls.map D.str) → vs = (ls.map mkS).map V.str
  | [], _, .nil => rfl
  | l :: ls, _, .cons h q => by
    cases h
    rw [Das.of_strs q]
    rfl
theorem Das.strs : ∀ (ls : List (List Nat)), Das K F ((ls.map mkS).map V.str) (ls.map D.str)
  | [] => .nil
  | l :: ls => .cons (.str l) (Das.strs ls)
theorem Das.of_bls : ∀ {bs : List Bool} {vs : List V}, Das K F vs (bs.map D.bl) → vs = bs.map V.bl
  | [], _, .nil => rfl
  | l :: ls, _, .cons h q => by
    cases h
    rw [Das.of_bls q]
    rfl
end

/-! ### heaps that grow -/
structure Gr (F H F' H' : Hp) : Prop where
  hh : Same H H'
  ff : Same F F'
  fh : Same F' H'
  new : ∀ a o, F' a = some o → F a = some o ∨ H a = none
theorem same_upd {H : Hp} {p : Addr} {o : HO} (h : H p = none) : Same H (upd H p o) := fun b x e => by
  rw [upd_ne (ne_of_none e h)]
  exact e
theorem same_upd2 {H H' : Hp} {p : Addr} {o : HO} (e : Same H H') : Same (upd H p o) (upd H' p o) := fun b x q => by
  by_cases hb : b = p
  · subst hb
    rw [upd_same] at q ⊢
    exact q
  · rw [upd_ne hb] at q ⊢
    exact e _ _ q
section
variable {F H F' H' F'' H'' : Hp}
theorem Gr.refl (h : Same F H) : Gr F H F H := ⟨Same.refl _, Same.refl _, h, fun _ _ e => .inl e⟩
theorem Gr.trans (a : Gr F H F' H') (b : Gr F' H' F'' H'') : Gr F H F'' H'' := by
  refine ⟨a.hh.trans b.hh, a.ff.trans b.ff, b.fh, fun c o e => ?_⟩
  rcases b.new c o e with e | e
  · exact a.new c o e
  · exact .inr (a.hh.free e)
/-- a new thing is laid and frozen -/
theorem Gr.laid {p : Addr} {o : HO} (h : Same F H) (hp : H p = none) : Gr F H (upd F p o) (upd H p o) := by
  have hf : F p = none := h.free hp
  refine ⟨same_upd hp, same_upd hf, same_upd2 h, fun a x e => ?_⟩
  by_cases ha : a = p
  · subst ha
    exact .inr hp
  · rw [upd_ne ha] at e
    exact .inl e
/-- a new thing is laid, not frozen -/
theorem Gr.side {p : Addr} {o : HO} (h : Same F H) (hp : H p = none) : Gr F H F (upd H p o) :=
  ⟨same_upd hp, Same.refl _, fun b x e => by rw [upd_ne (ne_of_none (h _ _ e) hp)]; exact h _ _ e, fun _ _ e => .inl e⟩
/-- it is frozen later -/
theorem Gr.freeze {p : Addr} {o : HO} (g : Gr F H F' H') (hp : H p = none) (hf : F' p = none) (e : H' p = some o) : Gr F H (upd F' p o) H' := by
  refine ⟨g.hh, g.ff.trans (same_upd hf), fun b x q => ?_, fun a x q => ?_⟩
  · by_cases hb : b = p
    · subst hb
      rw [upd_same] at q
      rw [e]
      exact q
    · rw [upd_ne hb] at q
      exact g.fh _ _ q
  · by_cases ha : a = p
    · subst ha
      exact .inr hp
    · rw [upd_ne ha] at q
      exact g.new a x q
end

/-! ### dicts whose keys are tuples of numbers and texts -/
def keyI : D → Option Key
  | .int i => some (.inl i)
  | .str l => some (.inr (mkS l))
  | _ => none
def keyL : List D → Option (List Key)
  | [] => some []
  | x :: xs => (keyI x).bind fun k => (keyL xs).bind fun ks => some (k :: ks)
def keyD : D → Option (List Key)
  | .tup xs => keyL xs
  | _ => none
abbrev DX0 := List (List Key × Addr × V)
/-- a dict's object, its keys' places and its values -/
structure DX where
  ob : Obj
  it : DX0
/-- the dict at a -/
def dHO (K : Kf) (a : Addr) (xs : DX) : HO := .ext fun h => h.get? a = some xs.ob ∧ (a == sysModules) = false ∧ xs.it.length ≤ sizeLine ∧ ∃ ys : List (List Key × Addr × Value), Paired (fun x y => x.1 = y.1 ∧ x.2.1 = y.2.1 ∧ RelV x.2.2 y.2.2) xs.it ys ∧
  ∃ es ep, xs.ob.ExactDict ∧ xs.ob.data = .dict es ep ∧ es.toList = ys.map (entryOfKey (tupleKind (mixKind K.P K.w))) ∧ (ys.map (·.1)).Nodup
def Dk0 (K : Kf) (F : Hp) : DX0 → List (D × D) → Prop := Paired fun x kv => keyD kv.1 = some x.1 ∧ Da K F (.ref x.2.1) kv.1 ∧ Da K F x.2.2 kv.2
abbrev Dks (K : Kf) (F : Hp) (xs : DX) (kvs : List (D × D)) : Prop := Dk0 K F xs.it kvs
theorem Dks.same {K : Kf} {F F' : Hp} (e : Same F F') {xs : DX} {kvs : List (D × D)} (h : Dks K F xs kvs) : Dks K F' xs kvs := Paired.mapP h fun _ _ z => ⟨z.1, z.2.1.same e, z.2.2.same e⟩
theorem Dk0.same {K : Kf} {F F' : Hp} (e : Same F F') {xs : DX0} {kvs : List (D × D)} (h : Dk0 K F xs kvs) : Dk0 K F' xs kvs := Paired.mapP h fun _ _ z => ⟨z.1, z.2.1.same e, z.2.2.same e⟩

/-! ### slots -/
/-- a thing within an own list of own things -/
inductive Ow where
  | l (xs : List D)
  | t (d r : D) (os : List D)
inductive Sl where
  | no | d (x : D) | l (xs : List D) | m (kvs : List (D × D)) | f (kvs : List (D × D))
  /-- an own table: its deal, its row, what stands over behind each stone -/
  | t (d r : D) (os : List D)
  /-- an own list of own lists or tables -/
  | ow (xs : List Ow)
/-- a table's fields -/
def tabF (v1 v2 : V) (l : Addr) : List (Str × V) := [("deal", v1), ("laid", v2), ("rests", .ref l)]
def TabC (K : Kf) (C : Addr) : Prop := PySem.W.nsIn K.K mainGlobals "Table" = some (some (.ref C))
/-- a table at a, its dict at dx, its list at l -/
def TabH (K : Kf) (F H : Hp) (C a dx l : Addr) (d r : D) (os : List D) : Prop := TabC K C ∧ ∃ v1 v2 vs, H a = some (.ins C dx (tabF v1 v2 l)) ∧ H dx = some (.own a) ∧ H l = some (.lst vs) ∧ Da K F v1 d ∧ Da K F v2 r ∧ Das K F vs os
abbrev En := List Sl
def OwE (K : Kf) (F H : Hp) (v : V) (fp : List Addr) : Ow → Prop
  | .l xs => ∃ a vs, v = .ref a ∧ H a = some (.lst vs) ∧ Das K F vs xs ∧ fp = [a]
  | .t d r os => ∃ a C dx l, v = .ref a ∧ TabH K F H C a dx l d r os ∧ fp = [a, dx, l]
def OwEs (K : Kf) (F H : Hp) : List V → List (List Addr) → List Ow → Prop
  | [], [], [] => True
  | v :: vs, f :: fs, x :: xs => OwE K F H v f x ∧ OwEs K F H vs fs xs
  | _, _, _ => False
theorem OwE.upto {K : Kf} {F H F' H' : Hp} {v : V} {fp : List Addr} {x : Ow} (gf : Same F F') (gh : ∀ a o, a ∈ fp → H a = some o → H' a = some o) (h : OwE K F H v fp x) : OwE K F' H' v fp x := by
  cases x with
  | l xs =>
    obtain ⟨a, vs, e1, e2, e3, e4⟩ := h
    exact ⟨a, vs, e1, gh _ _ (by rw [e4]; exact List.mem_singleton_self a) e2, e3.same gf, e4⟩
  | t d r os =>
    obtain ⟨a, C, dx, l, e1, ⟨tc, v1, v2, vs, q1, q2, q3, q4, q5, q6⟩, e4⟩ := h
    refine ⟨a, C, dx, l, e1, ⟨tc, v1, v2, vs, gh _ _ ?_ q1, gh _ _ ?_ q2, gh _ _ ?_ q3, q4.same gf, q5.same gf, q6.same gf⟩, e4⟩ <;> (rw [e4]; simp)
theorem OwEs.upto {K : Kf} {F H F' H' : Hp} (gf : Same F F') : ∀ {vs : List V} {fs : List (List Addr)} {xs : List Ow}, (∀ a o, a ∈ fs.flatten → H a = some o → H' a = some o) → OwEs K F H vs fs xs → OwEs K F' H' vs fs xs
  | [], [], [], _, _ => trivial
  | v :: vs, f :: fs, x :: xs, gh, h => ⟨h.1.upto gf fun a o ha => gh a o (List.mem_append_left _ ha), OwEs.upto gf (fun a o ha => gh a o (List.mem_append_right _ ha)) h.2⟩
  | [], [], _ :: _, _, h => h.elim
  | [], _ :: _, _, _, h => h.elim
  | _ :: _, [], _, _, h => h.elim
  | _ :: _, _ :: _, [], _, h => h.elim
/-- the own object of a slot -/
def OO (K : Kf) (F : Hp) (a : Addr) (ho : HO) : Sl → Prop
  | .l xs => ∃ vs, ho = .lst vs ∧ Das K F vs xs
  | .m kvs => ∃ xs, ho = dHO K a xs ∧ Dks K F xs kvs
  | _ => False
theorem OO.same {K : Kf} {F F' : Hp} (e : Same F F') {a : Addr} {ho : HO} {s : Sl} (h : OO K F a ho s) : OO K F' a ho s := by
  cases s with
  | l xs => obtain ⟨vs, h1, h2⟩ := h; exact ⟨vs, h1, h2.same e⟩
  | m kvs => obtain ⟨xs, h1, h2⟩ := h; exact ⟨xs, h1, h2.same e⟩
  | _ => exact h.elim
def Sl.own : Sl → Bool
  | .l _ => true
  | .m _ => true
  | _ => false
def OwnOk (K : Kf) (F H : Hp) (v : V) (fp : List Addr) : Sl → Prop
  | .no => fp = []
  | .d x => Da K F v x ∧ fp = []
  | .f kvs => (∃ a xs, v = .ref a ∧ F a = some (dHO K a xs) ∧ Dks K F xs kvs) ∧ fp = []
  | .l xs => ∃ a ho, v = .ref a ∧ H a = some ho ∧ OO K F a ho (.l xs) ∧ fp = [a]
  | .m kvs => ∃ a ho, v = .ref a ∧ H a = some ho ∧ OO K F a ho (.m kvs) ∧ fp = [a]
  | .t d r os => ∃ a C dx l, v = .ref a ∧ TabH K F H C a dx l d r os ∧ fp = [a, dx, l]
  | .ow xs => ∃ p vs fs, v = .ref p ∧ H p = some (.lst vs) ∧ OwEs K F H vs fs xs ∧ fp = p :: fs.flatten ∧ (p :: fs.flatten).Nodup
theorem OwnOk.of {K : Kf} {F H : Hp} {v : V} {fp : List Addr} {s : Sl} (hs : s.own = true) : OwnOk K F H v fp s ↔ ∃ a ho, v = .ref a ∧ H a = some ho ∧ OO K F a ho s ∧ fp = [a] := by
  cases s <;> first | exact Iff.rfl | cases hs
def SlOk (K : Kf) (F H : Hp) (o : Option V) (fp : List Addr) (s : Sl) : Prop := s = .no ∧ fp = [] ∨ ∃ v, o = some v ∧ OwnOk K F H v fp s
/-- the slots σ stand for ρ, over the frozen part F of H; P holds of the own objects' places -/
structure Vw (K : Kf) (P : Addr → Prop) (F H : Hp) (σ : St) (ρ : En) : Prop where
  sub : Same F H
  len : σ.length = ρ.length
  sl : ∃ fp : Nat → List Addr, (∀ i s o, ρ[i]? = some s → σ[i]? = some o → SlOk K F H o (fp i) s) ∧ (∀ i a, i < ρ.length → a ∈ fp i → F a = none ∧ H a ≠ none ∧ P a) ∧ ∀ i j a, i < ρ.length → j < ρ.length → a ∈ fp i → a ∈ fp j → i = j
section
variable {K : Kf} {P : Addr → Prop} {F H F' H' : Hp} {σ : St} {ρ : En}
theorem OwnOk.upto {v : V} {fp : List Addr} {s : Sl} (gf : Same F F') (gh : ∀ a o, a ∈ fp → H a = some o → H' a = some o) (h : OwnOk K F H v fp s) : OwnOk K F' H' v fp s := by
  cases s with
  | no => exact h
  | d x => exact ⟨h.1.same gf, h.2⟩
  | f kvs =>
    obtain ⟨⟨a, xs, e1, e2, e3⟩, e4⟩ := h
    exact ⟨⟨a, xs, e1, gf _ _ e2, e3.same gf⟩, e4⟩
  | l xs =>
    obtain ⟨a, ho, e1, e2, e3, e4⟩ := h
    exact ⟨a, ho, e1, gh _ _ (by rw [e4]; exact List.mem_singleton_self a) e2, e3.same gf, e4⟩
  | m xs =>
    obtain ⟨a, ho, e1, e2, e3, e4⟩ := h
    exact ⟨a, ho, e1, gh _ _ (by rw [e4]; exact List.mem_singleton_self a) e2, e3.same gf, e4⟩
  | t d r os =>
    obtain ⟨a, C, dx, l, e1, ⟨tc, v1, v2, vs, q1, q2, q3, q4, q5, q6⟩, e4⟩ := h
    refine ⟨a, C, dx, l, e1, ⟨tc, v1, v2, vs, gh _ _ ?_ q1, gh _ _ ?_ q2, gh _ _ ?_ q3, q4.same gf, q5.same gf, q6.same gf⟩, e4⟩ <;> (rw [e4]; simp)
  | ow xs =>
    obtain ⟨p, vs, fs, e1, e2, e3, e4, e5⟩ := h
    exact ⟨p, vs, fs, e1, gh _ _ (by rw [e4]; exact List.mem_cons_self) e2, e3.upto gf fun a o ha => gh a o (by rw [e4]; exact List.mem_cons_of_mem _ ha), e4, e5⟩
theorem OwnOk.grow {v : V} {fp : List Addr} {s : Sl} (g : Gr F H F' H') (h : OwnOk K F H v fp s) : OwnOk K F' H' v fp s := h.upto g.ff fun a o _ e => g.hh a o e
theorem SlOk.grow {o : Option V} {fp : List Addr} {s : Sl} (g : Gr F H F' H') (h : SlOk K F H o fp s) : SlOk K F' H' o fp s := by
  rcases h with h | ⟨v, e, h⟩
  · exact .inl h
  · exact .inr ⟨v, e, h.grow g⟩
theorem Vw.grow (h : Vw K P F H σ ρ) (g : Gr F H F' H') : Vw K P F' H' σ ρ := by
  obtain ⟨fp, h1, h2, h3⟩ := h.sl
  refine ⟨g.fh, h.len, fp, fun i s o e1 e2 => (h1 i s o e1 e2).grow g, fun i a hi ha => ?_, h3⟩
  obtain ⟨z1, z2, z3⟩ := h2 i a hi ha
  refine ⟨?_, ?_, z3⟩
  · cases q : F' a with
    | none => rfl
    | some o =>
      rcases g.new a o q with z | z
      · rw [z1] at z; cases z
      · exact absurd z z2
  · cases q : H a with
    | none => exact absurd q z2
    | some o =>
      rw [g.hh _ _ q]
      exact fun z => nomatch z
theorem Vw.get {i : Nat} {x : D} (h : Vw K P F H σ ρ) (e : ρ[i]? = some (.d x)) : ∃ v, σ[i]? = some (some v) ∧ Da K F v x := by
  obtain ⟨fp, h1, h2, h3⟩ := h.sl
  have hi : i < ρ.length := (List.getElem?_eq_some_iff.mp e).1
  have hs : i < σ.length := by rw [h.len]; exact hi
  rcases h1 i _ σ[i] e (List.getElem?_eq_getElem hs) with ⟨z, _⟩ | ⟨v, e2, e3, _⟩
  · cases z
  · exact ⟨v, by rw [List.getElem?_eq_getElem hs, e2], e3⟩
theorem Vw.getO {i : Nat} {s : Sl} (h : Vw K P F H σ ρ) (e : ρ[i]? = some s) (hs : s.own = true) : ∃ a ho, σ[i]? = some (some (.ref a)) ∧ H a = some ho ∧ F a = none ∧ P a ∧ OO K F a ho s := by
  obtain ⟨fp, h1, h2, h3⟩ := h.sl
  have hi : i < ρ.length := (List.getElem?_eq_some_iff.mp e).1
  have hl : i < σ.length := by rw [h.len]; exact hi
  rcases h1 i _ σ[i] e (List.getElem?_eq_getElem hl) with ⟨z, _⟩ | ⟨v, e2, q⟩
  · subst z; cases hs
  · obtain ⟨a, ho, rfl, q1, q2, q3⟩ := (OwnOk.of hs).mp q
    obtain ⟨z1, _, z3⟩ := h2 i a hi (by rw [q3]; exact List.mem_singleton_self a)
    exact ⟨a, ho, by rw [List.getElem?_eq_getElem hl, e2], q1, z1, z3, q2⟩
theorem Vw.getL {i : Nat} {xs : List D} (h : Vw K P F H σ ρ) (e : ρ[i]? = some (.l xs)) : ∃ a vs, σ[i]? = some (some (.ref a)) ∧ H a = some (.lst vs) ∧ F a = none ∧ P a ∧ Das K F vs xs := by
  obtain ⟨a, ho, e1, e2, e3, e4, vs, rfl, e5⟩ := h.getO e rfl
  exact ⟨a, vs, e1, e2, e3, e4, e5⟩
theorem Vw.getM {i : Nat} {kvs : List (D × D)} (h : Vw K P F H σ ρ) (e : ρ[i]? = some (.m kvs)) : ∃ a xs, σ[i]? = some (some (.ref a)) ∧ H a = some (dHO K a xs) ∧ F a = none ∧ P a ∧ Dks K F xs kvs := by
  obtain ⟨a, ho, e1, e2, e3, e4, xs, rfl, e5⟩ := h.getO e rfl
  exact ⟨a, xs, e1, e2, e3, e4, e5⟩
theorem Vw.getF {i : Nat} {kvs : List (D × D)} (h : Vw K P F H σ ρ) (e : ρ[i]? = some (.f kvs)) : ∃ a xs, σ[i]? = some (some (.ref a)) ∧ F a = some (dHO K a xs) ∧ Dks K F xs kvs := by
  obtain ⟨fp, h1, h2, h3⟩ := h.sl
  have hi : i < ρ.length := (List.getElem?_eq_some_iff.mp e).1
  have hl : i < σ.length := by rw [h.len]; exact hi
  rcases h1 i _ σ[i] e (List.getElem?_eq_getElem hl) with ⟨z, _⟩ | ⟨v, e2, ⟨a, xs, rfl, q1, q2⟩, _⟩
  · cases z
  · exact ⟨a, xs, by rw [List.getElem?_eq_getElem hl, e2], q1, q2⟩
/-- a slot is given a datum -/
theorem Vw.set {i : Nat} {x : D} {v : V} (h : Vw K P F H σ ρ) (q : Da K F v x) : Vw K P F H (σ.set i (some v)) (ρ.set i (.d x)) := by
  obtain ⟨fp, h1, h2, h3⟩ := h.sl
  refine ⟨h.sub, by rw [List.length_set, List.length_set]; exact h.len, fun j => if j = i then [] else fp j, fun j s o e1 e2 => ?_, fun j a hj ha => ?_, fun j k a hj hk ha hb => ?_⟩
  · by_cases hji : j = i
    · subst hji
      have hl : j < ρ.length := by
        have := (List.getElem?_eq_some_iff.mp e1).1
        rwa [List.length_set] at this
      rw [List.getElem?_set_self hl] at e1
      rw [List.getElem?_set_self (by rw [h.len]; exact hl)] at e2
      cases e1
      cases e2
      exact .inr ⟨v, rfl, q, by simp⟩
    · rw [List.getElem?_set_ne (Ne.symm hji)] at e1 e2
      simp only [hji, if_false]
      exact h1 j s o e1 e2
  · rw [List.length_set] at hj
    by_cases hji : j = i
    · simp [hji] at ha
    · simp only [hji, if_false] at ha
      exact h2 j a hj ha
  · rw [List.length_set] at hj hk
    by_cases hji : j = i
    · simp [hji] at ha
    · by_cases hki : k = i
      · simp [hki] at hb
      · simp only [hji, hki, if_false] at ha hb
        exact h3 j k a hj hk ha hb
/-- a slot is forgotten -/
theorem Vw.clear {i : Nat} {o : Option V} (h : Vw K P F H σ ρ) : Vw K P F H (σ.set i o) (ρ.set i .no) := by
  obtain ⟨fp, h1, h2, h3⟩ := h.sl
  refine ⟨h.sub, by rw [List.length_set, List.length_set]; exact h.len, fun j => if j = i then [] else fp j, fun j s o e1 e2 => ?_, fun j a hj ha => ?_, fun j k a hj hk ha hb => ?_⟩
  · by_cases hji : j = i
    · subst hji
      have hl : j < ρ.length := by
        have := (List.getElem?_eq_some_iff.mp e1).1
        rwa [List.length_set] at this
      rw [List.getElem?_set_self hl] at e1
      cases e1
      exact .inl ⟨rfl, by simp⟩
    · rw [List.getElem?_set_ne (Ne.symm hji)] at e1 e2
      simp only [hji, if_false]
      exact h1 j s o e1 e2
  · rw [List.length_set] at hj
    by_cases hji : j = i
    · simp [hji] at ha
    · simp only [hji, if_false] at ha
      exact h2 j a hj ha
  · rw [List.length_set] at hj hk
    by_cases hji : j = i
    · simp [hji] at ha
    · by_cases hki : k = i
      · simp [hki] at hb
      · simp only [hji, hki, if_false] at ha hb
        exact h3 j k a hj hk ha hb
/-- the places of a view: what is known of them -/
theorem Vw.setNewO {i : Nat} {s' : Sl} {a : Addr} {ho : HO} (h : Vw K P F H σ ρ) (g : Gr F H F' H') (hn : H a = none) (e : H' a = some ho) (hf : F' a = none) (hp : P a) (hs : s'.own = true) (q : OO K F' a ho s') :
    Vw K P F' H' (σ.set i (some (.ref a))) (ρ.set i s') := by
  obtain ⟨fp, h1, h2, h3⟩ := (h.grow g).sl
  obtain ⟨fp', h1', h2', h3'⟩ := h.sl
  refine ⟨g.fh, by rw [List.length_set, List.length_set]; exact h.len, fun j => if j = i then [a] else fp' j, fun j s o e1 e2 => ?_, fun j b hj ha => ?_, fun j k b hj hk ha hb => ?_⟩
  · by_cases hji : j = i
    · subst hji
      have hl : j < ρ.length := by
        have := (List.getElem?_eq_some_iff.mp e1).1
        rwa [List.length_set] at this
      rw [List.getElem?_set_self hl] at e1
      rw [List.getElem?_set_self (by rw [h.len]; exact hl)] at e2
      cases e1
      cases e2
      exact .inr ⟨_, rfl, (OwnOk.of hs).mpr ⟨a, ho, rfl, e, q, by simp⟩⟩
    · rw [List.getElem?_set_ne (Ne.symm hji)] at e1 e2
      simp only [hji, if_false]
      exact (h1' j s o e1 e2).grow g
  · rw [List.length_set] at hj
    by_cases hji : j = i
    · simp only [hji, if_true, List.mem_singleton] at ha
      subst ha
      exact ⟨hf, by rw [e]; exact fun z => (nomatch z), hp⟩
    · simp only [hji, if_false] at ha
      obtain ⟨z1, z2, z3⟩ := h2' j b hj ha
      refine ⟨?_, ?_, z3⟩
      · cases q : F' b with
        | none => rfl
        | some o =>
          rcases g.new b o q with z | z
          · rw [z1] at z; cases z
          · exact absurd z z2
      · cases q : H b with
        | none => exact absurd q z2
        | some o =>
          rw [g.hh _ _ q]
          exact fun z => nomatch z
  · rw [List.length_set] at hj hk
    have out : ∀ j, j < ρ.length → a ∉ fp' j := fun j hj ha => absurd hn (h2' j a hj ha).2.1
    by_cases hji : j = i
    · by_cases hki : k = i
      · rw [hji, hki]
      · simp only [hji, hki, if_true, if_false, List.mem_singleton] at ha hb
        subst ha
        exact absurd hb (out k hk)
    · by_cases hki : k = i
      · simp only [hji, hki, if_true, if_false, List.mem_singleton] at ha hb
        subst hb
        exact absurd ha (out j hj)
      · simp only [hji, hki, if_false] at ha hb
        exact h3' j k b hj hk ha hb
theorem Vw.setNew {i : Nat} {xs : List D} {a : Addr} {vs : List V} (h : Vw K P F H σ ρ) (g : Gr F H F' H') (hn : H a = none) (e : H' a = some (.lst vs)) (hf : F' a = none) (hp : P a) (q : Das K F' vs xs) :
    Vw K P F' H' (σ.set i (some (.ref a))) (ρ.set i (.l xs)) := h.setNewO g hn e hf hp rfl ⟨vs, rfl, q⟩
/-- the own list of a slot is changed -/
theorem Vw.mutO {i : Nat} {s0 s' : Sl} {a : Addr} {ho : HO} (h : Vw K P F H σ ρ) (e : ρ[i]? = some s0) (hs0 : s0.own = true) (es : σ[i]? = some (some (.ref a))) (hs : s'.own = true) (q : OO K F a ho s') :
    Vw K P F (upd H a ho) σ (ρ.set i s') := by
  obtain ⟨fp, h1, h2, h3⟩ := h.sl
  have hi : i < ρ.length := (List.getElem?_eq_some_iff.mp e).1
  obtain ⟨v, ev, q0⟩ : ∃ v, some (V.ref a) = some v ∧ OwnOk K F H v (fp i) s0 := by
    rcases h1 i _ _ e es with ⟨z, _⟩ | z
    · subst z; cases hs0
    · exact z
  obtain ⟨b, ws, rfl, q1, q2, q3⟩ := (OwnOk.of hs0).mp q0
  cases ev
  have hai : a ∈ fp i := by rw [q3]; exact List.mem_singleton_self a
  have hfa : F a = none := (h2 i a hi hai).1
  have nea : ∀ j b, j < ρ.length → j ≠ i → b ∈ fp j → b ≠ a := fun j b hj hji hb z => hji (h3 j i a hj hi (z ▸ hb) hai)
  refine ⟨fun b o z => ?_, by rw [List.length_set]; exact h.len, fp, fun j s o e1 e2 => ?_, fun j b hj hb => ?_, fun j k b hj hk => ?_⟩
  · rw [upd_ne (ne_of_none z hfa)]
    exact h.sub _ _ z
  · by_cases hji : j = i
    · subst hji
      rw [List.getElem?_set_self hi] at e1
      cases e1
      rw [es] at e2
      cases e2
      exact .inr ⟨_, rfl, (OwnOk.of hs).mpr ⟨a, ho, rfl, upd_same, q, q3⟩⟩
    · rw [List.getElem?_set_ne (Ne.symm hji)] at e1
      have hj : j < ρ.length := (List.getElem?_eq_some_iff.mp e1).1
      rcases h1 j s o e1 e2 with z | ⟨v, ev, z⟩
      · exact .inl z
      · exact .inr ⟨v, ev, z.upto (Same.refl _) fun b o hb e => by rw [upd_ne (nea j b hj hji hb)]; exact e⟩
  · rw [List.length_set] at hj
    obtain ⟨z1, z2, z3⟩ := h2 j b hj hb
    refine ⟨z1, ?_, z3⟩
    by_cases hba : b = a
    · subst hba
      rw [upd_same]
      exact fun z => nomatch z
    · rw [upd_ne hba]
      exact z2
  · rw [List.length_set] at hj hk
    exact h3 j k b hj hk
theorem Vw.mut {i : Nat} {xs ys : List D} {a : Addr} {vs : List V} (h : Vw K P F H σ ρ) (e : ρ[i]? = some (.l xs)) (es : σ[i]? = some (some (.ref a))) (q : Das K F vs ys) :
    Vw K P F (upd H a (.lst vs)) σ (ρ.set i (.l ys)) := h.mutO e rfl es rfl ⟨vs, rfl, q⟩
/-- the own list of a slot is a datum from here on -/
theorem Vw.frzO {i : Nat} {s s' : Sl} {a : Addr} {ho : HO} (h : Vw K P F H σ ρ) (e : ρ[i]? = some s) (hs : s.own = true) (es : σ[i]? = some (some (.ref a))) (e1 : H a = some ho) (e2 : F a = none)
    (q' : OwnOk K (upd F a ho) H (.ref a) [] s') : Vw K P (upd F a ho) H σ (ρ.set i s') := by
  have sub' : Same (upd F a ho) H := fun b o z => by
    by_cases hb : b = a
    · subst hb
      rw [upd_same] at z
      rw [e1]
      exact z
    · rw [upd_ne hb] at z
      exact h.sub _ _ z
  obtain ⟨fp, h1, h2, h3⟩ := h.sl
  have hi : i < ρ.length := (List.getElem?_eq_some_iff.mp e).1
  have hai : a ∈ fp i := by
    rcases h1 i _ _ e es with ⟨z, _⟩ | ⟨v, z, q0⟩
    · subst z; cases hs
    · obtain ⟨b, ws, rfl, q1, q2, q3⟩ := (OwnOk.of hs).mp q0
      cases z
      rw [q3]
      exact List.mem_singleton_self _
  refine ⟨sub', by rw [List.length_set]; exact h.len, fun j => if j = i then [] else fp j, fun j s o z1 z2 => ?_, fun j b hj hb => ?_, fun j k b hj hk hb hc => ?_⟩
  · by_cases hji : j = i
    · subst hji
      rw [List.getElem?_set_self hi] at z1
      cases z1
      rw [es] at z2
      cases z2
      simp only [if_true]
      exact .inr ⟨_, rfl, q'⟩
    · rw [List.getElem?_set_ne (Ne.symm hji)] at z1
      simp only [hji, if_false]
      rcases h1 j s o z1 z2 with z | ⟨v, ev, z⟩
      · exact .inl z
      · exact .inr ⟨v, ev, z.upto (same_upd e2) fun b o _ e => e⟩
  · rw [List.length_set] at hj
    by_cases hji : j = i
    · simp [hji] at hb
    · simp only [hji, if_false] at hb
      obtain ⟨z1, z2, z3⟩ := h2 j b hj hb
      refine ⟨?_, z2, z3⟩
      rw [upd_ne (fun (z : b = a) => hji (h3 j i a hj hi (z ▸ hb) hai))]
      exact z1
  · rw [List.length_set] at hj hk
    by_cases hji : j = i
    · simp [hji] at hb
    · by_cases hki : k = i
      · simp [hki] at hc
      · simp only [hji, hki, if_false] at hb hc
        exact h3 j k b hj hk hb hc
theorem Vw.frz {i : Nat} {xs : List D} (h : Vw K P F H σ ρ) (e : ρ[i]? = some (.l xs)) : ∃ a vs, H a = some (.lst vs) ∧ F a = none ∧ P a ∧ Vw K P (upd F a (.lst vs)) H σ (ρ.set i (.d (.lst xs))) := by
  obtain ⟨a, vs, es, e1, e2, e3, e4⟩ := h.getL e
  exact ⟨a, vs, e1, e2, e3, h.frzO e rfl es e1 e2 ⟨.lst upd_same (e4.same (same_upd e2)), rfl⟩⟩
theorem Vw.frzM {i : Nat} {kvs : List (D × D)} (h : Vw K P F H σ ρ) (e : ρ[i]? = some (.m kvs)) : ∃ a xs, H a = some (dHO K a xs) ∧ F a = none ∧ P a ∧ Vw K P (upd F a (dHO K a xs)) H σ (ρ.set i (.f kvs)) := by
  obtain ⟨a, xs, es, e1, e2, e3, e4⟩ := h.getM e
  exact ⟨a, xs, e1, e2, e3, h.frzO e rfl es e1 e2 ⟨⟨a, xs, rfl, upd_same, e4.same (same_upd e2)⟩, rfl⟩⟩
/-- a slot takes what another one holds, a frozen dict -/
theorem Vw.setF {i j : Nat} {kvs : List (D × D)} {v : V} (h : Vw K P F H σ ρ) (e : ρ[j]? = some (.f kvs)) (es : σ[j]? = some (some v)) : Vw K P F H (σ.set i (some v)) (ρ.set i (.f kvs)) := by
  obtain ⟨a, xs, e1, e2, e3⟩ := h.getF e
  rw [es] at e1
  cases e1
  obtain ⟨fp, h1, h2, h3⟩ := h.sl
  refine ⟨h.sub, by rw [List.length_set, List.length_set]; exact h.len, fun j => if j = i then [] else fp j, fun j s o e1 e2' => ?_, fun j a hj ha => ?_, fun j k a hj hk ha hb => ?_⟩
  · by_cases hji : j = i
    · subst hji
      have hl : j < ρ.length := by
        have := (List.getElem?_eq_some_iff.mp e1).1
        rwa [List.length_set] at this
      rw [List.getElem?_set_self hl] at e1
      rw [List.getElem?_set_self (by rw [h.len]; exact hl)] at e2'
      cases e1
      cases e2'
      exact .inr ⟨_, rfl, ⟨a, xs, rfl, e2, e3⟩, by simp⟩
    · rw [List.getElem?_set_ne (Ne.symm hji)] at e1 e2'
      simp only [hji, if_false]
      exact h1 j s o e1 e2'
  · rw [List.length_set] at hj
    by_cases hji : j = i
    · simp [hji] at ha
    · simp only [hji, if_false] at ha
      exact h2 j a hj ha
  · rw [List.length_set] at hj hk
    by_cases hji : j = i
    · simp [hji] at ha
    · by_cases hki : k = i
      · simp [hki] at hb
      · simp only [hji, hki, if_false] at ha hb
        exact h3 j k a hj hk ha hb
/-! ### tables -/
theorem Vw.getT {i : Nat} {d r : D} {os : List D} (h : Vw K P F H σ ρ) (e : ρ[i]? = some (.t d r os)) : ∃ a C dx l, σ[i]? = some (some (.ref a)) ∧ TabH K F H C a dx l d r os ∧ (F a = none ∧ F dx = none ∧ F l = none) ∧ P a ∧ P dx ∧ P l := by
  obtain ⟨fp, h1, h2, h3⟩ := h.sl
  have hi : i < ρ.length := (List.getElem?_eq_some_iff.mp e).1
  have hl : i < σ.length := by rw [h.len]; exact hi
  rcases h1 i _ σ[i] e (List.getElem?_eq_getElem hl) with ⟨z, _⟩ | ⟨v, e2, a, C, dx, l, rfl, q, ef⟩
  · cases z
  · have z1 := h2 i a hi (by rw [ef]; simp)
    have z2 := h2 i dx hi (by rw [ef]; simp)
    have z3 := h2 i l hi (by rw [ef]; simp)
    exact ⟨a, C, dx, l, by rw [List.getElem?_eq_getElem hl, e2], q, ⟨z1.1, z2.1, z3.1⟩, z1.2.2, z2.2.2, z3.2.2⟩
theorem TabH.uniq {C C' a dx dx' l l' : Addr} {d d' r r' : D} {os os' : List D} (h : TabH K F H C a dx l d r os) (h' : TabH K F' H C' a dx' l' d' r' os') : C = C' ∧ dx = dx' ∧ l = l' := by
  obtain ⟨_, v1, v2, vs, q1, _⟩ := h
  obtain ⟨_, w1, w2, ws, p1, _⟩ := h'
  rw [q1] at p1
  injection p1 with p1
  injection p1 with e1 e2 e3
  unfold tabF at e3
  injection e3 with _ e3
  injection e3 with _ e3
  injection e3 with e3 _
  injection e3 with _ e3
  injection e3 with e3
  exact ⟨e1, e2, e3⟩
theorem TabH.apart {C a dx l : Addr} {d r : D} {os : List D} (h : TabH K F H C a dx l d r os) : a ≠ dx ∧ a ≠ l ∧ dx ≠ l := by
  obtain ⟨_, v1, v2, vs, q1, q2, q3, _⟩ := h
  exact ⟨ne_of q1 q2 (fun z => nomatch z), ne_of q1 q3 (fun z => nomatch z), ne_of q2 q3 (fun z => nomatch z)⟩
theorem TabH.grow {C a dx l : Addr} {d r : D} {os : List D} (g : Gr F H F' H') (h : TabH K F H C a dx l d r os) : TabH K F' H' C a dx l d r os := by
  obtain ⟨tc, v1, v2, vs, q1, q2, q3, q4, q5, q6⟩ := h
  exact ⟨tc, v1, v2, vs, g.hh _ _ q1, g.hh _ _ q2, g.hh _ _ q3, q4.same g.ff, q5.same g.ff, q6.same g.ff⟩
/-- the table of a slot is changed -/
theorem Vw.mutT {i : Nat} {d r d' r' : D} {os os' : List D} {C a dx l : Addr} (h : Vw K P F H σ ρ) (e : ρ[i]? = some (.t d r os)) (es : σ[i]? = some (some (.ref a))) (q0 : TabH K F H C a dx l d r os) (ff : Same F F') (fh : Same F' H')
    (same : ∀ b o, b ≠ a → b ≠ l → H b = some o → H' b = some o) (live : ∀ b, H b ≠ none → H' b ≠ none) (new : ∀ b o, F' b = some o → F b = some o ∨ H b = none) (q : TabH K F' H' C a dx l d' r' os') : Vw K P F' H' σ (ρ.set i (.t d' r' os')) := by
  obtain ⟨fp, h1, h2, h3⟩ := h.sl
  have hi : i < ρ.length := (List.getElem?_eq_some_iff.mp e).1
  have ef : fp i = [a, dx, l] := by
    rcases h1 i _ _ e es with ⟨z, _⟩ | ⟨v, z, b, C2, dx2, l2, rfl, q2, ef⟩
    · cases z
    · cases z
      obtain ⟨_, rfl, rfl⟩ := q0.uniq q2
      exact ef
  have ne : ∀ j b, j < ρ.length → j ≠ i → b ∈ fp j → b ≠ a ∧ b ≠ l := fun j b hj hji hb => ⟨fun z => hji (h3 j i a hj hi (z ▸ hb) (by rw [ef]; simp)), fun z => hji (h3 j i l hj hi (z ▸ hb) (by rw [ef]; simp))⟩
  refine ⟨fh, by rw [List.length_set]; exact h.len, fp, fun j s o e1 e2 => ?_, fun j b hj hb => ?_, fun j k b hj hk => ?_⟩
  · by_cases hji : j = i
    · subst hji
      rw [List.getElem?_set_self hi] at e1
      cases e1
      rw [es] at e2
      cases e2
      exact .inr ⟨_, rfl, a, C, dx, l, rfl, q, ef⟩
    · rw [List.getElem?_set_ne (Ne.symm hji)] at e1
      have hj : j < ρ.length := (List.getElem?_eq_some_iff.mp e1).1
      rcases h1 j s o e1 e2 with z | ⟨v, ev, z⟩
      · exact .inl z
      · exact .inr ⟨v, ev, z.upto ff fun b o hb e => same b o (ne j b hj hji hb).1 (ne j b hj hji hb).2 e⟩
  · rw [List.length_set] at hj
    obtain ⟨z1, z2, z3⟩ := h2 j b hj hb
    refine ⟨?_, live b z2, z3⟩
    cases w : F' b with
    | none => rfl
    | some o =>
      rcases new b o w with y | y
      · rw [z1] at y; cases y
      · exact absurd y z2
  · rw [List.length_set] at hj hk
    exact h3 j k b hj hk
/-- a slot is given a new table -/
theorem Vw.setNewT {i : Nat} {d r : D} {os : List D} {C a dx l : Addr} (h : Vw K P F H σ ρ) (g : Gr F H F' H') (na : H a = none) (nd : H dx = none) (nl : H l = none) (fa : F' a = none) (fd : F' dx = none) (fl : F' l = none) (pa : P a) (pd : P dx) (pl : P l) (q : TabH K F' H' C a dx l d r os) :
    Vw K P F' H' (σ.set i (some (.ref a))) (ρ.set i (.t d r os)) := by
  obtain ⟨fp', h1', h2', h3'⟩ := h.sl
  obtain ⟨tc, v1, v2, vs, q1, q2, q3, q4⟩ := id q
  refine ⟨g.fh, by rw [List.length_set, List.length_set]; exact h.len, fun j => if j = i then [a, dx, l] else fp' j, fun j s o e1 e2 => ?_, fun j b hj ha => ?_, fun j k b hj hk ha hb => ?_⟩
  · by_cases hji : j = i
    · subst hji
      have hl : j < ρ.length := by
        have := (List.getElem?_eq_some_iff.mp e1).1
        rwa [List.length_set] at this
      rw [List.getElem?_set_self hl] at e1
      rw [List.getElem?_set_self (by rw [h.len]; exact hl)] at e2
      cases e1
      cases e2
      exact .inr ⟨_, rfl, a, C, dx, l, rfl, q, by simp⟩
    · rw [List.getElem?_set_ne (Ne.symm hji)] at e1 e2
      simp only [hji, if_false]
      exact (h1' j s o e1 e2).grow g
  · rw [List.length_set] at hj
    by_cases hji : j = i
    · simp only [hji, if_true, List.mem_cons, List.not_mem_nil, or_false] at ha
      rcases ha with rfl | rfl | rfl
      · exact ⟨fa, by rw [q1]; exact fun z => (nomatch z), pa⟩
      · exact ⟨fd, by rw [q2]; exact fun z => (nomatch z), pd⟩
      · exact ⟨fl, by rw [q3]; exact fun z => (nomatch z), pl⟩
    · simp only [hji, if_false] at ha
      obtain ⟨z1, z2, z3⟩ := h2' j b hj ha
      refine ⟨?_, ?_, z3⟩
      · cases w : F' b with
        | none => rfl
        | some o =>
          rcases g.new b o w with z | z
          · rw [z1] at z; cases z
          · exact absurd z z2
      · cases w : H b with
        | none => exact absurd w z2
        | some o =>
          rw [g.hh _ _ w]
          exact fun z => nomatch z
  · rw [List.length_set] at hj hk
    have out : ∀ j b, j < ρ.length → b = a ∨ b = dx ∨ b = l → b ∉ fp' j := fun j b hj hb ha => by
      have hz := (h2' j b hj ha).2.1
      rcases hb with rfl | rfl | rfl
      · exact hz na
      · exact hz nd
      · exact hz nl
    by_cases hji : j = i
    · by_cases hki : k = i
      · rw [hji, hki]
      · simp only [hji, hki, if_true, if_false, List.mem_cons, List.not_mem_nil, or_false] at ha hb
        exact absurd hb (out k b hk ha)
    · by_cases hki : k = i
      · simp only [hji, hki, if_true, if_false, List.mem_cons, List.not_mem_nil, or_false] at ha hb
        exact absurd ha (out j b hj hb)
      · simp only [hji, hki, if_false] at ha hb
        exact h3' j k b hj hk ha hb
end

end DL
end
section
namespace DL
open PySem PySem.Spec L2
open PyProof.Rows hiding St

section
variable {X : Cx}
theorem PEi {e : Expr} {t t' : TE} (h : PE X e t') (f : ∀ σ H Q, t σ H Q → t' σ H Q) : PE X e t := ⟨fun pins s σ H Q I w => h.run pins s σ H Q I (f _ _ _ w)⟩
theorem PTi {e : Expr} {t t' : TT} (h : PT X e t') (f : ∀ σ H Q, t σ H Q → t' σ H Q) : PT X e t := ⟨fun pins s σ H Q I w => h.run pins s σ H Q I (f _ _ _ w)⟩
theorem PWi {e : Expr} {t t' : TT} (h : PW X e t') (f : ∀ σ H Q, t σ H Q → t' σ H Q) : PW X e t := ⟨fun wh pins s σ H Q I w => h.run wh pins s σ H Q I (f _ _ _ w)⟩
theorem PAi {e : List Expr} {t t' : TA} (h : PA X e t') (f : ∀ σ H Q, t σ H Q → t' σ H Q) : PA X e t := ⟨fun pos pins s σ H Q I w => h.run pos pins s σ H Q I (f _ _ _ w)⟩
theorem PSi {e : Stmt} {t t' : TS} (h : PS X e t') (f : ∀ D σ H, t D σ H → t' D σ H) : PS X e t := ⟨fun pins s σ H D I w => h.run pins s σ H D I (f _ _ _ w)⟩
theorem PSsi {e : List Stmt} {t t' : TS} (h : PSs X e t') (f : ∀ D σ H, t D σ H → t' D σ H) : PSs X e t := ⟨fun pins s σ H D I w => h.run pins s σ H D I (f _ _ _ w)⟩
theorem PIi {tg e : Expr} {t t' : TI} (h : PI X tg e t') (f : ∀ σ H R, t σ H R → t' σ H R) : PI X tg e t := ⟨fun pins s σ H R I w => h.run pins s σ H R I (f _ _ _ w)⟩
theorem PGi {e : Expr} {t t' : TG} (h : PG X e t') (f : ∀ v σ H Q, t v σ H Q → t' v σ H Q) : PG X e t := ⟨fun pins s σ H v u Q I r w => h.run pins s σ H v u Q I r (f _ _ _ _ w)⟩
theorem OpRi {g : Value → Value → Sem Value} {r r' : R2} (h : OpR X g r') (f : ∀ x y H Q, r x y H Q → r' x y H Q) : OpR X g r := fun pins s σ H x y v u Q I rx ry w => h pins s σ H x y v u Q I rx ry (f _ _ _ _ w)
theorem CallRi {g : Value} {r r' : List V → Hp → VK → Prop} (h : CallR X g r') (f : ∀ xs H Q, r xs H Q → r' xs H Q) : CallR X g r := fun pins s σ H xs us Q I rx w => h pins s σ H xs us Q I rx (f _ _ _ w)
end

/-! ### readings by data -/
def tD (K : Kf) (f : En → Option D) : TE := fun σ H Q => ∃ P F ρ d, Vw K P F H σ ρ ∧ f ρ = some d ∧ ∀ v F' H', Gr F H F' H' → Da K F' v d → Q v H'
def tDT (K : Kf) (f : En → Option Bool) : TT := fun σ H Q => ∃ P F ρ b, Vw K P F H σ ρ ∧ f ρ = some b ∧ ∀ F' H', Gr F H F' H' → Q b H'
def tDA (K : Kf) (f : En → Option (List D)) : TA := fun σ H Q => ∃ P F ρ ds, Vw K P F H σ ρ ∧ f ρ = some ds ∧ ∀ vs F' H', Gr F H F' H' → Das K F' vs ds → Q vs H'
/-- a new list, not frozen yet -/
def tDL (K : Kf) (f : En → Option (List D)) : TE := fun σ H Q => ∃ P F ρ ds, Vw K P F H σ ρ ∧ f ρ = some ds ∧ ∀ a vs F' H', Gr F H F' H' → H a = none → F' a = none → H' a = some (.lst vs) → Das K F' vs ds → Q (.ref a) H'
def r1D (K : Kf) (g : D → Option D) : V → Hp → VK → Prop := fun x H Q => ∃ F a d, Same F H ∧ Da K F x a ∧ g a = some d ∧ ∀ v F' H', Gr F H F' H' → Da K F' v d → Q v H'
def r2D (K : Kf) (g : D → D → Option D) : R2 := fun x y H Q => ∃ F a b d, Same F H ∧ Da K F x a ∧ Da K F y b ∧ g a b = some d ∧ ∀ v F' H', Gr F H F' H' → Da K F' v d → Q v H'
def rsD (K : Kf) (g : List D → Option D) : List V → Hp → VK → Prop := fun xs H Q => ∃ F as d, Same F H ∧ Das K F xs as ∧ g as = some d ∧ ∀ v F' H', Gr F H F' H' → Da K F' v d → Q v H'

theorem bind_some_iff {α β : Type} {o : Option α} {f : α → Option β} {b : β} (h : o.bind f = some b) : ∃ a, o = some a ∧ f a = some b := by
  cases o with
  | none => cases h
  | some a => exact ⟨a, rfl, h⟩

section
variable {X : Cx} {a b c e : Expr} {pos : Pos} {fa fb fc : En → Option D}
def bind2 (g : D → D → Option D) (fa fb : En → Option D) : En → Option D := fun ρ => (fa ρ).bind fun x => (fb ρ).bind fun y => g x y
def bind1 (g : D → Option D) (fa : En → Option D) : En → Option D := fun ρ => (fa ρ).bind g
theorem tD_op {g : D → D → Option D} {K : Kf} {σ : St} {H : Hp} {Q : VK} (h : tD K (bind2 g fa fb) σ H Q) : tOp (r2D K g) (tD K fa) (tD K fb) σ H Q := by
  obtain ⟨P, F, ρ, d, vw, e, k⟩ := h
  obtain ⟨x, ex, e⟩ := bind_some_iff e
  obtain ⟨y, ey, e⟩ := bind_some_iff e
  exact ⟨P, F, ρ, x, vw, ex, fun v F1 H1 g1 q1 => ⟨P, F1, ρ, y, vw.grow g1, ey, fun w F2 H2 g2 q2 => ⟨F2, x, y, d, g2.fh, q1.same g2.ff, q2, e, fun z F3 H3 g3 q3 => k z F3 H3 ((g1.trans g2).trans g3) q3⟩⟩⟩
theorem pd_bin {op : Operator} {g : D → D → Option D} (ho : OpR X (binaryOp op) (r2D X.kf g)) (ha : PE X a (tD X.kf fa)) (hb : PE X b (tD X.kf fb)) : PE X (.BinOp a op b pos) (tD X.kf (bind2 g fa fb)) :=
  PEi (pe_op ho ha hb) fun _ _ _ h => tD_op h
theorem pd_cmp {op : CmpOp} {g : D → D → Option D} (ho : OpR X (compareOp op) (r2D X.kf g)) (hm : behindInMarks op b = false) (ha : PE X a (tD X.kf fa)) (hb : PE X b (tD X.kf fb)) : PE X (.Compare a [op] [b] pos) (tD X.kf (bind2 g fa fb)) :=
  PEi (pe_cmpR ho ha hb hm) fun _ _ _ h => tD_op h
theorem pd_un {op : UnaryOp} {g : D → Option D} (ho : UnR X (unaryOp op) (r1D X.kf g)) (ha : PE X a (tD X.kf fa)) : PE X (.UnaryOp op a pos) (tD X.kf (bind1 g fa)) := by
  refine PEi (pe_un ho ha) fun σ H Q h => ?_
  obtain ⟨P, F, ρ, d, vw, e, k⟩ := h
  obtain ⟨x, ex, e⟩ := bind_some_iff e
  exact ⟨P, F, ρ, x, vw, ex, fun v F1 H1 g1 q1 => ⟨F1, x, d, g1.fh, q1, e, fun z F3 H3 g3 q3 => k z F3 H3 (g1.trans g3) q3⟩⟩

/-! ### names, constants -/
def gv (i : Nat) : En → Option D := fun ρ => match ρ[i]? with | some (.d x) => some x | _ => none
theorem gv_some {i : Nat} {ρ : En} {x : D} (h : gv i ρ = some x) : ρ[i]? = some (.d x) := by
  unfold gv at h
  split at h
  · cases h
    assumption
  · cases h
theorem pd_var {i : Nat} {x : Str} (hN : X.N[i]? = some x) (hv : Vis X.env.scope x) (hd : (x == ("__debug__" : Str)) = false) (hcd : (x == ("__classdict__" : Str)) = false) : PE X (.Name x pos) (tD X.kf (gv i)) := by
  refine PEi (pe_var hN hv hd hcd) fun σ H Q h => ?_
  obtain ⟨P, F, ρ, d, vw, e, k⟩ := h
  obtain ⟨v, e1, e2⟩ := vw.get (gv_some e)
  exact ⟨v, e1, k v F H (Gr.refl vw.sub) e2⟩
def gc (d : D) : En → Option D := fun _ => some d
theorem tD_con {K : Kf} {v : V} {d : D} (h : ∀ F, Da K F v d) {σ : St} {H : Hp} {Q : VK} (w : tD K (gc d) σ H Q) : tC v σ H Q := by
  obtain ⟨P, F, ρ, d', vw, e, k⟩ := w
  cases e
  exact k v F H (Gr.refl vw.sub) (h F)
theorem pd_int {i : Int} {j : Nat} : PE X (.Constant (.int i) j pos) (tD X.kf (gc (.int i))) := PEi pe_int fun _ _ _ h => tD_con (fun _ => .int i) h
theorem pd_bl {b : Bool} {j : Nat} : PE X (.Constant (.bool b) j pos) (tD X.kf (gc (.bl b))) := PEi pe_bl fun _ _ _ h => tD_con (fun _ => .bl b) h
theorem pd_non {j : Nat} : PE X (.Constant .none j pos) (tD X.kf (gc .non)) := PEi pe_non fun _ _ _ h => tD_con (fun _ => .non) h
theorem pd_str {x : Str} {j : Nat} : PE X (.Constant (.str x) j pos) (tD X.kf (gc (.str (TL.tl x)))) := PEi pe_str fun _ _ _ h => tD_con (fun F => by
  have := Da.str (K := X.kf) (F := F) (TL.tl x)
  rw [mkS_tl] at this
  exact this) h
theorem pd_glob {x : Str} {v : V} {u : Value} {d : D} (hg : Gl X x) (hm : X.mg x = some u) (r : RelV v u) (h : ∀ F, Da X.kf F v d) (hd : (x == ("__debug__" : Str)) = false) : PE X (.Name x pos) (tD X.kf (gc d)) :=
  PEi (pe_glob hg hm r hd) fun _ _ _ w => tD_con h w

/-! ### lists of expressions -/
def gnil : En → Option (List D) := fun _ => some []
def gcons (f : En → Option D) (fs : En → Option (List D)) : En → Option (List D) := fun ρ => (f ρ).bind fun x => (fs ρ).bind fun xs => some (x :: xs)
theorem pda_nil : PA X [] (tDA X.kf gnil) := PAi pa_nil fun σ H Q h => by
  obtain ⟨P, F, ρ, d, vw, e, k⟩ := h
  cases e
  exact k [] F H (Gr.refl vw.sub) .nil
theorem pda_cons {es : List Expr} {fs : En → Option (List D)} (ha : PE X a (tD X.kf fa)) (hr : PA X es (tDA X.kf fs)) (hs : starEach (a :: es) X.env = (false, eval a X.env) :: starEach es X.env) : PA X (a :: es) (tDA X.kf (gcons fa fs)) := by
  refine PAi (pa_cons ha hr hs) fun σ H Q h => ?_
  obtain ⟨P, F, ρ, d, vw, e, k⟩ := h
  obtain ⟨x, ex, e⟩ := bind_some_iff e
  obtain ⟨xs, exs, e⟩ := bind_some_iff e
  cases e
  exact ⟨P, F, ρ, x, vw, ex, fun v F1 H1 g1 q1 => ⟨P, F1, ρ, xs, vw.grow g1, exs, fun vs F2 H2 g2 q2 => k _ F2 H2 (g1.trans g2) (.cons (q1.same g2.ff) q2)⟩⟩
def small (xs : List D) : Option (List D) := if xs.length ≤ sizeLine then some xs else none
theorem small_some {xs ys : List D} (h : small xs = some ys) : ys = xs ∧ xs.length ≤ sizeLine := by
  unfold small at h
  split at h
  · cases h
    exact ⟨rfl, by assumption⟩
  · cases h
def gtup (fs : En → Option (List D)) : En → Option D := fun ρ => (fs ρ).bind fun xs => (small xs).map .tup
def glst (fs : En → Option (List D)) : En → Option (List D) := fun ρ => (fs ρ).bind small
theorem pd_tup {es : List Expr} {fs : En → Option (List D)} {n : Nat} (h : PA X es (tDA X.kf fs)) : PE X (.Tuple es n pos) (tD X.kf (gtup fs)) := by
  refine PEi (pe_tup h) fun σ H Q h => ?_
  obtain ⟨P, F, ρ, d, vw, e, k⟩ := h
  obtain ⟨xs, ex, e⟩ := bind_some_iff e
  obtain ⟨ys, ey, rfl⟩ := Option.map_eq_some_iff.mp e
  obtain ⟨rfl, hl⟩ := small_some ey
  refine ⟨P, F, ρ, _, vw, ex, fun vs F1 H1 g1 q1 => ⟨by rw [q1.length]; exact hl, fun p hp => ?_⟩⟩
  have g2 := Gr.laid (o := .tup vs) g1.fh hp
  exact k _ _ _ (g1.trans g2) (.tup (.of upd_same) (q1.same g2.ff))
theorem pdl_lst {es : List Expr} {fs : En → Option (List D)} (h : PA X es (tDA X.kf fs)) : PE X (.List es pos) (tDL X.kf (glst fs)) := by
  refine PEi (pe_lst h) fun σ H Q h => ?_
  obtain ⟨P, F, ρ, d, vw, e, k⟩ := h
  obtain ⟨xs, ex, e⟩ := bind_some_iff e
  obtain ⟨rfl, hl⟩ := small_some e
  refine ⟨P, F, ρ, _, vw, ex, fun vs F1 H1 g1 q1 => ⟨by rw [q1.length]; exact hl, fun p hp => ?_⟩⟩
  have g2 := Gr.side (o := .lst vs) g1.fh hp
  exact k _ vs _ _ (g1.trans g2) (g1.hh.free hp) (g1.fh.free hp) upd_same (q1.same g2.ff)
/-- a new list as a datum -/
def fz (f : En → Option (List D)) : En → Option D := fun ρ => (f ρ).map .lst
theorem pd_of_l {f : En → Option (List D)} (h : PE X e (tDL X.kf f)) : PE X e (tD X.kf (fz f)) := by
  refine PEi h fun σ H Q h => ?_
  obtain ⟨P, F, ρ, d, vw, e, k⟩ := h
  obtain ⟨ys, ey, e⟩ := Option.map_eq_some_iff.mp e
  subst e
  refine ⟨P, F, ρ, ys, vw, ey, fun a vs F' H' g n nf el q => ?_⟩
  exact k _ _ _ (g.freeze n nf el) (.lst upd_same (q.same (same_upd nf)))

/-! ### truth, tests -/
def truD : D → Option Bool
  | .non => some false
  | .bl b => some b
  | .int i => some (i != 0)
  | .str l => if l.length ≤ sizeLine then some ((l.length : Int) != 0) else none
  | .lst xs => some (!xs.isEmpty)
  | .tup xs => some (!xs.isEmpty)
  | .scr _ => none
  | .dic _ _ => none
  | .btp _ => none
theorem isEmpty_len {α β : Type} {xs : List α} {ys : List β} (h : xs.length = ys.length) : xs.isEmpty = ys.isEmpty := by
  cases xs <;> cases ys <;> first | rfl | cases h
theorem tru_of {K : Kf} {F H : Hp} {v : V} {d : D} {k : Bool} (s : Same F H) (h : Da K F v d) (e : truD d = some k) : TruV K v H k := by
  cases h with
  | non => cases e; exact rfl
  | bl b => cases e; exact rfl
  | int i => cases e; exact rfl
  | str l =>
    have e' : (if l.length ≤ sizeLine then some ((l.length : Int) != 0) else none) = some k := e
    by_cases hl : l.length ≤ sizeLine
    · rw [if_pos hl] at e'
      cases e'
      exact ⟨hl, rfl⟩
    · rw [if_neg hl] at e'
      cases e'
  | lst h q =>
    cases e
    exact .inl ⟨_, .of (s _ _ h), by rw [isEmpty_len q.length]⟩
  | tup h q =>
    cases e
    exact .inr (.inl ⟨_, sqT_same s h, by rw [isEmpty_len q.length]⟩)
  | scr h => cases e
  | dic h l q => cases e
  | btp h n q => cases e
def ft (f : En → Option D) : En → Option Bool := fun ρ => (f ρ).bind truD
theorem pdt_plain (ha : PE X a (tD X.kf fa)) (he : ∀ whole, isTrue a X.env whole = (do let v ← whole; standAt a.pos; holding [v] (truthy v))) : PT X a (tDT X.kf (ft fa)) := by
  refine PTi (pt_truth ha he) fun σ H Q h => ?_
  obtain ⟨P, F, ρ, d, vw, e, k⟩ := h
  obtain ⟨x, ex, e⟩ := bind_some_iff e
  exact ⟨P, F, ρ, x, vw, ex, fun v F1 H1 g1 q1 => ⟨d, tru_of g1.fh q1 e, k F1 H1 g1⟩⟩
/-- a comparison's value is a bool -/
def isB (g : D → D → Option D) : Prop := ∀ x y d, g x y = some d → ∃ b, d = .bl b
theorem pdt_cmp {op : CmpOp} {g : D → D → Option D} (hB : isB g) (ho : OpR X (compareOp op) (r2D X.kf g)) (hm : behindInMarks op b = false) (ha : PE X a (tD X.kf fa)) (hb : PE X b (tD X.kf fb)) : PT X (.Compare a [op] [b] pos) (tDT X.kf (ft (bind2 g fa fb))) := by
  refine PTi (pt_cmpR ho ha hb hm) fun σ H Q h => ?_
  obtain ⟨P, F, ρ, d, vw, e, k⟩ := h
  obtain ⟨z, ez, e⟩ := bind_some_iff e
  refine tD_op (g := g) ⟨P, F, ρ, z, vw, ez, fun v F' H' g' q => ?_⟩
  obtain ⟨x, ex, e1⟩ := bind_some_iff ez
  obtain ⟨y, ey, e1⟩ := bind_some_iff e1
  obtain ⟨w, rfl⟩ := hB _ _ _ e1
  cases q
  cases e
  exact ⟨_, rfl, k F' H' g'⟩
theorem pdt_not {f : En → Option Bool} (ha : PT X a (tDT X.kf f)) : PT X (.UnaryOp .Not a pos) (tDT X.kf (fun ρ => (f ρ).map (!·))) := by
  refine PTi (pt_not ha) fun σ H Q h => ?_
  obtain ⟨P, F, ρ, d, vw, e, k⟩ := h
  obtain ⟨y, ey, rfl⟩ := Option.map_eq_some_iff.mp e
  exact ⟨P, F, ρ, y, vw, ey, fun F1 H1 g1 => k F1 H1 g1⟩
theorem pd_not (ha : PE X a (tD X.kf fa)) : PE X (.UnaryOp .Not a pos) (tD X.kf (fun ρ => (ft fa ρ).map fun b => .bl (!b))) := by
  refine PEi (pe_notT ha) fun σ H Q h => ?_
  obtain ⟨P, F, ρ, d, vw, e, k⟩ := h
  obtain ⟨y, ey, rfl⟩ := Option.map_eq_some_iff.mp e
  obtain ⟨x, ex, e⟩ := bind_some_iff ey
  exact ⟨P, F, ρ, x, vw, ex, fun v F1 H1 g1 q1 => ⟨y, tru_of g1.fh q1 e, k _ F1 H1 g1 (.bl _)⟩⟩
/-- and, or: as values, as tests -/
def gand (f g : En → Option D) : En → Option D := fun ρ => (f ρ).bind fun x => (truD x).bind fun b => if b then g ρ else some x
def gor (f g : En → Option D) : En → Option D := fun ρ => (f ρ).bind fun x => (truD x).bind fun b => if b then some x else g ρ
variable {rest : List Expr}
theorem pd_and (ha : PE X a (tD X.kf fa)) (hb : PE X (.BoolOp .And (b :: rest) pos) (tD X.kf fb)) : PE X (.BoolOp .And (a :: b :: rest) pos) (tD X.kf (gand fa fb)) := by
  refine PEi (pe_andT ha hb) fun σ H Q h => ?_
  obtain ⟨P, F, ρ, d, vw, e, k⟩ := h
  obtain ⟨x, ex, e⟩ := bind_some_iff e
  obtain ⟨y, ey, e⟩ := bind_some_iff e
  refine ⟨P, F, ρ, x, vw, ex, fun v F1 H1 g1 q1 => ⟨y, tru_of g1.fh q1 ey, ?_⟩⟩
  cases y with
  | true => exact ⟨P, F1, ρ, d, vw.grow g1, e, fun w F2 H2 g2 q2 => k w F2 H2 (g1.trans g2) q2⟩
  | false =>
    cases e
    exact k _ F1 H1 g1 q1
theorem pd_or (ha : PE X a (tD X.kf fa)) (hb : PE X (.BoolOp .Or (b :: rest) pos) (tD X.kf fb)) : PE X (.BoolOp .Or (a :: b :: rest) pos) (tD X.kf (gor fa fb)) := by
  refine PEi (pe_orT ha hb) fun σ H Q h => ?_
  obtain ⟨P, F, ρ, d, vw, e, k⟩ := h
  obtain ⟨x, ex, e⟩ := bind_some_iff e
  obtain ⟨y, ey, e⟩ := bind_some_iff e
  refine ⟨P, F, ρ, x, vw, ex, fun v F1 H1 g1 q1 => ⟨y, tru_of g1.fh q1 ey, ?_⟩⟩
  cases y with
  | false => exact ⟨P, F1, ρ, d, vw.grow g1, e, fun w F2 H2 g2 q2 => k w F2 H2 (g1.trans g2) q2⟩
  | true =>
    cases e
    exact k _ F1 H1 g1 q1
theorem pdw_and (ha : PT X a (tDT X.kf (ft fa))) (hb : PW X (.BoolOp .And (b :: rest) pos) (tDT X.kf (ft fb))) : PW X (.BoolOp .And (a :: b :: rest) pos) (tDT X.kf (ft (gand fa fb))) := by
  refine PWi (pw_and ha hb) fun σ H Q h => ?_
  obtain ⟨P, F, ρ, d, vw, e, k⟩ := h
  obtain ⟨z, ez, e⟩ := bind_some_iff e
  obtain ⟨x, ex, ez⟩ := bind_some_iff ez
  obtain ⟨y, ey, ez⟩ := bind_some_iff ez
  refine ⟨P, F, ρ, y, vw, by unfold ft; rw [ex]; exact ey, fun F1 H1 g1 => ?_⟩
  cases y with
  | true => exact ⟨P, F1, ρ, d, vw.grow g1, by unfold ft; rw [show fb ρ = some z from ez]; exact e, fun F2 H2 g2 => k F2 H2 (g1.trans g2)⟩
  | false =>
    cases ez
    rw [ey] at e
    cases e
    exact k F1 H1 g1
theorem pdw_or (ha : PT X a (tDT X.kf (ft fa))) (hb : PW X (.BoolOp .Or (b :: rest) pos) (tDT X.kf (ft fb))) : PW X (.BoolOp .Or (a :: b :: rest) pos) (tDT X.kf (ft (gor fa fb))) := by
  refine PWi (pw_or ha hb) fun σ H Q h => ?_
  obtain ⟨P, F, ρ, d, vw, e, k⟩ := h
  obtain ⟨z, ez, e⟩ := bind_some_iff e
  obtain ⟨x, ex, ez⟩ := bind_some_iff ez
  obtain ⟨y, ey, ez⟩ := bind_some_iff ez
  refine ⟨P, F, ρ, y, vw, by unfold ft; rw [ex]; exact ey, fun F1 H1 g1 => ?_⟩
  cases y with
  | false => exact ⟨P, F1, ρ, d, vw.grow g1, by unfold ft; rw [show fb ρ = some z from ez]; exact e, fun F2 H2 g2 => k F2 H2 (g1.trans g2)⟩
  | true =>
    cases ez
    rw [ey] at e
    cases e
    exact k F1 H1 g1
/-- a if c else b -/
def gif (f : En → Option Bool) (ga gb : En → Option D) : En → Option D := fun ρ => (f ρ).bind fun b => if b then ga ρ else gb ρ
theorem pd_if {f : En → Option Bool} (hc : PT X c (tDT X.kf f)) (ha : PE X a (tD X.kf fa)) (hb : PE X b (tD X.kf fb)) : PE X (.IfExp c a b pos) (tD X.kf (gif f fa fb)) := by
  refine PEi (pe_ifExp hc ha hb) fun σ H Q h => ?_
  obtain ⟨P, F, ρ, d, vw, e, k⟩ := h
  obtain ⟨y, ey, e⟩ := bind_some_iff e
  refine ⟨P, F, ρ, y, vw, ey, fun F1 H1 g1 => ?_⟩
  cases y with
  | true => exact ⟨P, F1, ρ, d, vw.grow g1, e, fun w F2 H2 g2 q2 => k w F2 H2 (g1.trans g2) q2⟩
  | false => exact ⟨P, F1, ρ, d, vw.grow g1, e, fun w F2 H2 g2 q2 => k w F2 H2 (g1.trans g2) q2⟩
/-- a chain of two comparisons -/
def gchain (g g' : D → D → Option D) (fa fb fc : En → Option D) : En → Option D := fun ρ => (fa ρ).bind fun x => (fb ρ).bind fun y => (g x y).bind fun z => match z with
  | .bl true => (fc ρ).bind fun w => g' y w
  | .bl false => some (.bl false)
  | _ => none
theorem tD_chain {g g' : D → D → Option D} {K : Kf} {σ : St} {H : Hp} {Q : VK} (h : tD K (gchain g g' fa fb fc) σ H Q) : tChain (r2D K g) (r2D K g') (tD K fa) (tD K fb) (tD K fc) σ H Q := by
  obtain ⟨P, F, ρ, d, vw, e, k⟩ := h
  obtain ⟨x, ex, e⟩ := bind_some_iff e
  obtain ⟨y, ey, e⟩ := bind_some_iff e
  obtain ⟨z, ez, e⟩ := bind_some_iff e
  refine ⟨P, F, ρ, x, vw, ex, fun v F1 H1 g1 q1 => ⟨P, F1, ρ, y, vw.grow g1, ey, fun w F2 H2 g2 q2 => ⟨F2, x, y, z, g2.fh, q1.same g2.ff, q2, ez, fun u F3 H3 g3 q3 => ?_⟩⟩⟩
  split at e
  · cases q3
    obtain ⟨w', ew, e⟩ := bind_some_iff e
    refine ⟨true, rfl, ?_⟩
    exact ⟨P, F3, ρ, w', ((vw.grow g1).grow g2).grow g3, ew, fun u4 F4 H4 g4 q4 => ⟨F4, y, w', d, g4.fh, (q2.same g3.ff).same g4.ff, q4, e, fun u5 F5 H5 g5 q5 => k _ _ _ ((((g1.trans g2).trans g3).trans g4).trans g5) q5⟩⟩
  · cases q3
    cases e
    exact ⟨false, rfl, k _ _ _ ((g1.trans g2).trans g3) (.bl false)⟩
  · cases e
theorem pd_chain {op op' : CmpOp} {g g' : D → D → Option D} (ho : OpR X (compareOp op) (r2D X.kf g)) (ho' : OpR X (compareOp op') (r2D X.kf g')) (hm : lastMarks [op, op'] [b, c] = false)
    (ha : PE X a (tD X.kf fa)) (hb : PE X b (tD X.kf fb)) (hc : PE X c (tD X.kf fc)) : PE X (.Compare a [op, op'] [b, c] pos) (tD X.kf (gchain g g' fa fb fc)) :=
  PEi (pe_chain ho ho' ha hb hc hm) fun _ _ _ h => tD_chain h
theorem pdt_chain {op op' : CmpOp} {g g' : D → D → Option D} (hB : isB g') (ho : OpR X (compareOp op) (r2D X.kf g)) (ho' : OpR X (compareOp op') (r2D X.kf g')) (hm : lastMarks [op, op'] [b, c] = false)
    (ha : PE X a (tD X.kf fa)) (hb : PE X b (tD X.kf fb)) (hc : PE X c (tD X.kf fc)) : PT X (.Compare a [op, op'] [b, c] pos) (tDT X.kf (ft (gchain g g' fa fb fc))) := by
  refine PTi (pt_chain ho ho' ha hb hc hm) fun σ H Q h => ?_
  obtain ⟨P, F, ρ, d, vw, e, k⟩ := h
  obtain ⟨z, ez, e⟩ := bind_some_iff e
  refine tD_chain (g := g) (g' := g') ⟨P, F, ρ, z, vw, ez, fun v F' H' g' q => ?_⟩
  have : ∃ b, z = .bl b := by
    obtain ⟨x, ex, e1⟩ := bind_some_iff ez
    obtain ⟨y, ey, e1⟩ := bind_some_iff e1
    obtain ⟨u, eu, e1⟩ := bind_some_iff e1
    split at e1
    · obtain ⟨w, ew, e1⟩ := bind_some_iff e1
      exact hB _ _ _ e1
    · cases e1
      exact ⟨_, rfl⟩
    · cases e1
  obtain ⟨w, rfl⟩ := this
  cases q
  cases e
  exact ⟨_, rfl, k F' H' g'⟩
end
end DL
end
section
namespace DL
open PySem PySem.Spec L2
open PyProof.Rows hiding St

/-! ### texts as lists of codes -/
theorem mkS_append (a b : List Nat) : mkS a ++ mkS b = mkS (a ++ b) := TL.ext_tl (by rw [TL.tl_append])
theorem mkS_length (a : List Nat) : (mkS a).length = a.length := by simp [mkS, Str.length]

/-! ### the data as the library's data -/
mutual
def toPy : D → PyData
  | .non => .none
  | .bl b => .bool b
  | .int i => .int i
  | .str l => .str (mkS l)
  | .lst xs => .list (toPys xs)
  | .tup xs => .tuple (toPys xs)
  | .scr ns => .list (ns.map .int)
  | .dic _ _ => .dict []
  | .btp _ => .dict []
def toPys : List D → List PyData
  | [] => []
  | x :: xs => toPy x :: toPys xs
end
theorem toPys_map : ∀ xs : List D, toPys xs = xs.map toPy
  | [] => rfl
  | x :: xs => by rw [toPys, toPys_map xs]; rfl
section
variable {K : Kf} {F H : Hp}
theorem dpAll_ints : ∀ ns : List Int, DpAll K H (ns.map V.int) (ns.map PyData.int)
  | [] => .nil
  | n :: ns => .cons (.int n) (dpAll_ints ns)
mutual
theorem Da.dp (e : Same F H) : ∀ {d : D} {v : V}, Da K F v d → (toPy d).canLay0 = true → Dp K H v (toPy d)
  | .non, _, .non, _ => by rw [toPy]; exact .non
  | .bl b, _, .bl _, _ => by rw [toPy]; exact .bl b
  | .int i, _, .int _, _ => by rw [toPy]; exact .int i
  | .str l, _, .str _, _ => by rw [toPy]; exact .str _
  | .lst ds, _, .lst h q, c => by rw [toPy] at c ⊢; exact .lst (.of (e _ _ h)) (Das.dp e q (by simpa [PyData.canLay0] using c))
  | .tup ds, _, .tup h q, c => by rw [toPy] at c ⊢; exact .tup (sqT_same e h) (Das.dp e q (by simpa [PyData.canLay0] using c))
  | .scr ns, _, .scr h, _ => by rw [toPy]; exact .lst (e.seq h) (dpAll_ints ns)
  | .dic _ _, _, .dic _ _ _, c => by rw [toPy] at c; simp [PyData.canLay0] at c
  | .btp _, _, .btp _ _ _, c => by rw [toPy] at c; simp [PyData.canLay0] at c
theorem Das.dp (e : Same F H) : ∀ {ds : List D} {vs : List V}, Das K F vs ds → PyData.canLayAll0 (toPys ds) = true → DpAll K H vs (toPys ds)
  | [], _, .nil, _ => by rw [toPys]; exact .nil
  | d :: ds, _, .cons h q, c => by
    rw [toPys] at c ⊢
    have c' : (toPy d).canLay0 = true ∧ PyData.canLayAll0 (toPys ds) = true := by simpa [PyData.canLayAll0] using c
    exact .cons (Da.dp e h c'.1) (Das.dp e q c'.2)
end
end

/-! ### operations on data -/
def okD (d : D) : Bool := SeqAt.shaped (toPy d)
def deq (a b : D) : Bool := PyData.eqv (toPy a) (toPy b)
def addD : D → D → Option D
  | .int i, .int j => some (.int (i + j))
  | .str a, .str b => if a.length + b.length ≤ sizeLine then some (.str (a ++ b)) else none
  | .tup a, .tup b => if a.length + b.length ≤ sizeLine then some (.tup (a ++ b)) else none
  | .lst a, .lst b => if a.length + b.length ≤ sizeLine then some (.lst (a ++ b)) else none
  | _, _ => none
def catL : D → D → Option (List D)
  | .lst a, .lst b => if a.length + b.length ≤ sizeLine then some (a ++ b) else none
  | _, _ => none
def subD : D → D → Option D
  | .int i, .int j => some (.int (i - j))
  | _, _ => none
/-! ### times a number -/
def rmul : D → D → Option D
  | .str l, .int k => if 2 ≤ k ∧ k ≤ 1000 ∧ l.length ≤ 1000 then some (.str (List.replicate k.toNat l).flatten) else none
  | .tup xs, .int k => if 1 ≤ k ∧ k ≤ 1000 ∧ xs.length ≤ 1000 ∧ xs ≠ [] then some (.tup (List.replicate k.toNat xs).flatten) else none
  | .lst xs, .int k => if 1 ≤ k ∧ k ≤ 1000 ∧ xs.length ≤ 1000 then some (.lst (List.replicate k.toNat xs).flatten) else none
  | _, _ => none
def mulD : D → D → Option D
  | .int i, .int j => if (-(2 ^ 64) < i ∧ i < 2 ^ 64) ∨ (-(2 ^ 64) < j ∧ j < 2 ^ 64) then some (.int (i * j)) else none
  | a, b => rmul a b
def modD : D → D → Option D
  | .int i, .int j => if 0 < j then some (.int (i % j)) else none
  | _, _ => none
def fdivD : D → D → Option D
  | .int i, .int j => if 0 < j ∧ j < 1073741824 then some (.int (i / j)) else none
  | _, _ => none
def eqD (a b : D) : Option D := if okD a && okD b then some (.bl (deq a b)) else none
def neD (a b : D) : Option D := if okD a && okD b then some (.bl (!deq a b)) else none
def ltD : D → D → Option D
  | .int i, .int j => some (.bl (decide (i < j)))
  | _, _ => none
def leD : D → D → Option D
  | .int i, .int j => some (.bl (decide (i ≤ j)))
  | _, _ => none
def gtD : D → D → Option D
  | .int i, .int j => some (.bl (decide (j < i)))
  | _, _ => none
def geD : D → D → Option D
  | .int i, .int j => some (.bl (decide (j ≤ i)))
  | _, _ => none
/-- x is None, x is True, x is False -/
def isNon : D → Bool
  | .non => true
  | _ => false
def isD (a : D) : D → Option D
  | .non => some (.bl (isNon a))
  | .bl b => match a with
    | .bl a => some (.bl (decide (a = b)))
    | _ => none
  | _ => none
def isnD (a : D) : D → Option D
  | .non => some (.bl (!isNon a))
  | .bl b => match a with
    | .bl a => some (.bl (!decide (a = b)))
    | _ => none
  | _ => none
def occ (i j : List Nat) : Bool := !(Builtin.Str.occurrences (mkS j) (mkS i) 0 (mkS j).length 1).isEmpty
def inD (a : D) : D → Option D
  | .tup ys => if okD a && okD (.tup ys) then some (.bl (ys.any fun z => deq z a)) else none
  | .lst ys => if okD a && okD (.lst ys) then some (.bl (ys.any fun z => deq z a)) else none
  | .str t => match a with
    | .str s => some (.bl (occ s t))
    | _ => none
  | _ => none
def ninD (a : D) : D → Option D
  | .tup ys => if okD a && okD (.tup ys) then some (.bl (!ys.any fun z => deq z a)) else none
  | .lst ys => if okD a && okD (.lst ys) then some (.bl (!ys.any fun z => deq z a)) else none
  | .str t => match a with
    | .str s => some (.bl (!occ s t))
    | _ => none
  | _ => none

section
variable {X : Cx}
theorem od_add : OpR X (binaryOp .Add) (r2D X.kf addD) := by
  intro pins s σ H x y v u Q I rx ry h
  obtain ⟨F, a, b, d, sf, ha, hb, e, k⟩ := h
  unfold addD at e
  split at e
  · cases ha; cases hb; cases e
    exact op_add pins s σ H _ _ v u Q I rx ry ⟨_, _, rfl, rfl, k _ F H (Gr.refl sf) (.int _)⟩
  · split at e
    · cases ha; cases hb; cases e
      rename_i l m hl
      refine op_add_str pins s σ H _ _ v u Q I rx ry ⟨_, _, rfl, rfl, by rw [mkS_length, mkS_length]; exact hl, ?_⟩
      rw [mkS_append]
      exact k _ F H (Gr.refl sf) (.str _)
    · cases e
  · split at e
    · cases e
      rename_i l m hl
      cases ha with
      | tup h1 q1 =>
        cases hb with
        | tup h2 q2 =>
          have z1 := q1.length
          have z2 := q2.length
          refine op_catA pins s σ H _ _ v u Q I rx ry ⟨_, _, _, _, rfl, rfl, sqT_same sf h1, sqT_same sf h2, by omega, fun e0 => ?_, fun _ e0 => ?_, fun _ _ p hp => ?_⟩
          · subst e0
            cases q1
            exact k _ F H (Gr.refl sf) (.tup h2 q2)
          · subst e0
            cases q2
            rw [List.append_nil] at k
            exact k _ F H (Gr.refl sf) (.tup h1 q1)
          · exact k _ _ _ (Gr.laid sf hp) (.tup (.of upd_same) ((q1.append q2).same (Gr.laid sf hp).ff))
    · cases e
  · split at e
    · cases e
      rename_i l m hl
      cases ha with
      | lst h1 q1 =>
        cases hb with
        | lst h2 q2 =>
          have z1 := q1.length
          have z2 := q2.length
          exact op_cat pins s σ H _ _ v u Q I rx ry ⟨_, _, _, _, rfl, rfl, sf _ _ h1, sf _ _ h2, by omega, fun p hp => k _ _ _ (Gr.laid sf hp) (.lst upd_same ((q1.append q2).same (Gr.laid sf hp).ff))⟩
    · cases e
  · cases e
theorem od_catL : OpR X (binaryOp .Add) (fun x y H Q => ∃ F a b ds, Same F H ∧ Da X.kf F x a ∧ Da X.kf F y b ∧ catL a b = some ds ∧ ∀ p vs, H p = none → Das X.kf F vs ds → Q (.ref p) (upd H p (.lst vs))) := by
  intro pins s σ H x y v u Q I rx ry h
  obtain ⟨F, a, b, d, sf, ha, hb, e, k⟩ := h
  unfold catL at e
  split at e
  · split at e
    · cases e
      rename_i l m hl
      cases ha with
      | lst h1 q1 =>
        cases hb with
        | lst h2 q2 =>
          have z1 := q1.length
          have z2 := q2.length
          exact op_cat pins s σ H _ _ v u Q I rx ry ⟨_, _, _, _, rfl, rfl, sf _ _ h1, sf _ _ h2, by omega, fun p hp => k p _ hp (q1.append q2)⟩
    · cases e
  · cases e
theorem od_sub : OpR X (binaryOp .Sub) (r2D X.kf subD) := by
  intro pins s σ H x y v u Q I rx ry h
  obtain ⟨F, a, b, d, sf, ha, hb, e, k⟩ := h
  unfold subD at e
  split at e
  · cases ha; cases hb; cases e
    exact op_sub pins s σ H _ _ v u Q I rx ry ⟨_, _, rfl, rfl, k _ F H (Gr.refl sf) (.int _)⟩
  · cases e
theorem foldl_repN (l : List Nat) : ∀ (m : Nat) (acc : List Nat), List.foldl (fun (x1 x2 : Array Nat) => x1 ++ x2) acc.toArray (List.replicate m l.toArray) = (acc ++ (List.replicate m l).flatten).toArray
  | 0, acc => by simp
  | m + 1, acc => by
    rw [List.replicate_succ, List.foldl_cons, List.replicate_succ, List.flatten_cons]
    have : acc.toArray ++ l.toArray = (acc ++ l).toArray := by simp
    rw [this, foldl_repN l m (acc ++ l), List.append_assoc]
theorem flat_len {α : Type} (l : List α) : ∀ m : Nat, (List.replicate m l).flatten.length = m * l.length
  | 0 => by simp
  | m + 1 => by rw [List.replicate_succ, List.flatten_cons, List.length_append, flat_len l m, Nat.succ_mul, Nat.add_comm]
theorem op_mulS : OpR X (binaryOp .Mult) (fun x y H Q => ∃ l k, x = .str (mkS l) ∧ y = .int k ∧ 2 ≤ k ∧ k ≤ 1000 ∧ l.length ≤ 1000 ∧ Q (.str (mkS (List.replicate k.toNat l).flatten)) H) := by
  intro pins s σ H x y v u Q I rx ry h
  obtain ⟨l, k, rfl, rfl, h1, h2, h3, q⟩ := h
  obtain ⟨t, rfl⟩ := rx
  obtain ⟨t', rfl⟩ := ry
  have hz : l.length * k.toNat ≤ 1000000 := by
    have : l.length * k.toNat ≤ 1000 * 1000 := Nat.mul_le_mul h3 (by omega)
    omega
  refine PySem.P.mul_str ?_ ?_ ?_ ?_
  · rw [decide_eq_false (by omega), decide_eq_false (by omega)]; rfl
  · intro _ _
    rw [mkS_length]
    have : (l.length : Int) ≤ 1000 := by omega
    have h5 : (2 ^ 63 - 1 : Int) / k ≥ 1000 := by
      apply Int.le_ediv_of_mul_le (by omega)
      have : (1000 : Int) * k ≤ 1000 * 1000 := Int.mul_le_mul_of_nonneg_left h2 (by omega)
      omega
    omega
  · intro _ _
    rw [mkS_length]
    unfold Builtin.Str.tooLong
    rw [sizeLine_eq]
    exact decide_eq_false (by omega)
  · rw [if_neg (by omega)]
    by_cases c : (k == 1 || (mkS l).length == 0) = true
    · rw [if_pos c]
      have e0 : l = [] := by
        rw [mkS_length] at c
        rw [Bool.or_eq_true, beq_iff_eq, beq_iff_eq] at c
        rcases c with c | c
        · omega
        · exact List.eq_nil_of_length_eq_zero c
      subst e0
      have : (List.replicate k.toNat ([] : List Nat)).flatten = [] := by simp
      rw [this] at q
      exact ⟨.str (mkS []), H, I, ⟨t, rfl⟩, q⟩
    · rw [if_neg c]
      have e : (⟨(List.replicate k.toNat (mkS l).cps).foldl (· ++ ·) #[]⟩ : Str) = mkS (List.replicate k.toNat l).flatten := by
        have := foldl_repN l k.toNat []
        rw [List.nil_append] at this
        show (⟨(List.replicate k.toNat l.toArray).foldl (· ++ ·) #[]⟩ : Str) = _
        rw [this]
      rw [e]
      refine ⟨?_, .str _, H, I.tok _, ⟨_, rfl⟩, q⟩
      rw [mkS_length, flat_len, sizeLine_eq, Nat.mul_comm]
      omega
theorem tuple_mulW1 (l : Addr) (items : Array Value) (n : Nat) (dd : Option Addr) (sl : Array (Option Value)) (x : Int) (u : Tok) (c0 : (decide (x < -(2 ^ 63)) || decide (x ≥ 2 ^ 63)) = false) (c1 : (items.isEmpty || x == 1) = true) :
    Meets (Builtin.«tuple.__mul__» ⟨[.ref l, .int x u], []⟩) (fun _ R s => s.heap.get? l = some { cls := .type "tuple", dict := dd, data := .seq items n, slots := sl } ∧
      R (.ok (.ret (Value.ref l))) s) :=
  .of_wp fun prog w A R s h => by
    obtain ⟨hp, g, d, tk, os⟩ := s
    obtain ⟨hl, h⟩ := h
    have f1 := AutoSeq1.idx_int
    wp_walk using wpAny_loadPart' hl
    repeat (first
      | (refine wpAny_ite_false (decide_eq_false (by rw [c0]; exact Bool.false_ne_true)) ?_; wp_walk using wpAny_loadPart' hl)
      | (refine wpAny_ite_true (decide_eq_true (by rw [c1])) ?_; wp_walk using wpAny_loadPart' hl))
    exact ⟨_, rfl, h⟩
theorem op_repT1 : OpR X (binaryOp .Mult) (fun x y H Q => ∃ l xs, x = .ref l ∧ y = .int 1 ∧ SqT X.kf H l xs ∧ Q (.ref l) H) := by
  intro pins s σ H x y v u Q I rx ry h
  obtain ⟨l, xs, rfl, rfl, hT, q⟩ := h
  cases rx
  obtain ⟨t, rfl⟩ := ry
  obtain ⟨its, r, ⟨⟨cls, dd, data, sl⟩, ho, hc, n, hd⟩, hs⟩ := I.tuple hT
  simp only at hc hd
  subst hc hd
  refine wpAny_binaryOp_repeat_ref (T := "tuple") (U := "int") (by decide) ⟨_, ho, rfl⟩ (fun s' => typeIs_int s' 1 t) noFill_tuple_mul F.fills_int_mul F.slot_int_rmul repeat_tuple F.slot_int_index.lookup
    (call_meets F.slot_int_rmul (typeIs_int s 1 t) F.entry_int_rmul (F.args_int_rmul_2 _ _) (int_rmul_tuple 1 t l its.toArray n dd sl)
      ⟨ho, rfl, ⟨_, ho, rfl⟩, call_meets F.slot_tuple_mul ⟨_, ho, rfl⟩ F.entry_tuple_mul (F.args_tuple_mul_2 _ _) (tuple_mulW1 l its.toArray n dd sl 1 t (by decide) (by simp)) ⟨ho, ?_⟩⟩)
  exact ⟨.ref l, H, I, rfl, q⟩
theorem od_rmul : OpR X (binaryOp .Mult) (r2D X.kf rmul) := by
  intro pins s σ H x y v u Q I rx ry h
  obtain ⟨F, a, b, d, sf, ha, hb, e, k⟩ := h
  unfold rmul at e
  split at e
  · split at e
    · rename_i hh
      cases ha; cases hb; cases e
      exact op_mulS pins s σ H _ _ v u Q I rx ry ⟨_, _, rfl, rfl, hh.1, hh.2.1, hh.2.2, k _ F H (Gr.refl sf) (.str _)⟩
    · cases e
  · rename_i xs kk
    split at e
    · rename_i hh
      cases e
      cases hb
      cases ha with
      | tup h1 q1 =>
        by_cases h2 : kk = 1
        · subst h2
          have : (List.replicate (1 : Int).toNat xs).flatten = xs := by simp
          rw [this] at k
          exact op_repT1 pins s σ H _ _ v u Q I rx ry ⟨_, _, rfl, rfl, sqT_same sf h1, k _ F H (Gr.refl sf) (.tup h1 q1)⟩
        · have z := q1.length
          refine op_repT pins s σ H _ _ v u Q I rx ry ⟨_, _, _, rfl, rfl, sqT_same sf h1, fun e0 => hh.2.2.2 ?_, by omega, hh.2.1, by omega, fun p hp => k _ _ _ (Gr.laid sf hp) (.tup (.of upd_same) ((q1.rep kk.toNat).same (Gr.laid sf hp).ff))⟩
          subst e0
          exact List.eq_nil_of_length_eq_zero z.symm
    · cases e
  · rename_i xs kk
    split at e
    · rename_i hh
      cases e
      cases hb
      cases ha with
      | lst h1 q1 =>
        have z := q1.length
        refine op_rep pins s σ H _ _ v u Q I rx ry ⟨_, _, _, rfl, rfl, sf _ _ h1, by omega, by omega, ?_, fun p hp => k _ _ _ (Gr.laid sf hp) (.lst upd_same ((q1.rep kk.toNat).same (Gr.laid sf hp).ff))⟩
        rw [sizeLine_eq, z]
        have : xs.length * kk.toNat ≤ 1000 * 1000 := Nat.mul_le_mul hh.2.2 (by omega)
        omega
    · cases e
  · cases e

theorem od_mul : OpR X (binaryOp .Mult) (r2D X.kf mulD) := by
  intro pins s σ H x y v u Q I rx ry h
  obtain ⟨F, a, b, d, sf, ha, hb, e, k⟩ := h
  unfold mulD at e
  split at e
  · split at e
    · cases ha; cases hb; cases e
      exact op_mul pins s σ H _ _ v u Q I rx ry ⟨_, _, rfl, rfl, by assumption, k _ F H (Gr.refl sf) (.int _)⟩
    · cases e
  · exact od_rmul pins s σ H x y v u Q I rx ry ⟨F, _, _, d, sf, ha, hb, e, k⟩
theorem od_mod : OpR X (binaryOp .Mod) (r2D X.kf modD) := by
  intro pins s σ H x y v u Q I rx ry h
  obtain ⟨F, a, b, d, sf, ha, hb, e, k⟩ := h
  unfold modD at e
  split at e
  · split at e
    · cases ha; cases hb; cases e
      exact op_mod pins s σ H _ _ v u Q I rx ry ⟨_, _, rfl, rfl, by assumption, k _ F H (Gr.refl sf) (.int _)⟩
    · cases e
  · cases e
theorem od_fdiv : OpR X (binaryOp .FloorDiv) (r2D X.kf fdivD) := by
  intro pins s σ H x y v u Q I rx ry h
  obtain ⟨F, a, b, d, sf, ha, hb, e, k⟩ := h
  unfold fdivD at e
  split at e
  · split at e
    · cases ha; cases hb; cases e
      exact op_fdiv pins s σ H _ _ v u Q I rx ry ⟨_, _, rfl, rfl, by assumption, k _ F H (Gr.refl sf) (.int _)⟩
    · cases e
  · cases e
theorem od_lt : OpR X (compareOp .Lt) (r2D X.kf ltD) := by
  intro pins s σ H x y v u Q I rx ry h
  obtain ⟨F, a, b, d, sf, ha, hb, e, k⟩ := h
  unfold ltD at e
  split at e
  · cases ha; cases hb; cases e
    exact op_lt pins s σ H _ _ v u Q I rx ry ⟨_, _, rfl, rfl, k _ F H (Gr.refl sf) (.bl _)⟩
  · cases e
theorem od_le : OpR X (compareOp .LtE) (r2D X.kf leD) := by
  intro pins s σ H x y v u Q I rx ry h
  obtain ⟨F, a, b, d, sf, ha, hb, e, k⟩ := h
  unfold leD at e
  split at e
  · cases ha; cases hb; cases e
    exact op_le pins s σ H _ _ v u Q I rx ry ⟨_, _, rfl, rfl, k _ F H (Gr.refl sf) (.bl _)⟩
  · cases e
theorem od_gt : OpR X (compareOp .Gt) (r2D X.kf gtD) := by
  intro pins s σ H x y v u Q I rx ry h
  obtain ⟨F, a, b, d, sf, ha, hb, e, k⟩ := h
  unfold gtD at e
  split at e
  · cases ha; cases hb; cases e
    exact op_gt pins s σ H _ _ v u Q I rx ry ⟨_, _, rfl, rfl, k _ F H (Gr.refl sf) (.bl _)⟩
  · cases e
theorem od_ge : OpR X (compareOp .GtE) (r2D X.kf geD) := by
  intro pins s σ H x y v u Q I rx ry h
  obtain ⟨F, a, b, d, sf, ha, hb, e, k⟩ := h
  unfold geD at e
  split at e
  · cases ha; cases hb; cases e
    exact op_ge pins s σ H _ _ v u Q I rx ry ⟨_, _, rfl, rfl, k _ F H (Gr.refl sf) (.bl _)⟩
  · cases e
theorem od_eq (hu : X.A.units + 65 < cLine) : OpR X (compareOp .Eq) (r2D X.kf eqD) := by
  intro pins s σ H x y v u Q I rx ry h
  obtain ⟨F, a, b, d, sf, ha, hb, e, k⟩ := h
  unfold eqD at e
  split at e
  · rename_i hab
    rw [Bool.and_eq_true] at hab
    cases e
    exact op_eqD (by omega) pins s σ H _ _ v u Q I rx ry ⟨_, _, ha.dp sf (SeqAt.canLay_of_shaped hab.1), hb.dp sf (SeqAt.canLay_of_shaped hab.2), hab.1, hab.2, k _ F H (Gr.refl sf) (.bl _)⟩
  · cases e
theorem od_ne (hu : X.A.units + 65 < cLine) : OpR X (compareOp .NotEq) (r2D X.kf neD) := by
  intro pins s σ H x y v u Q I rx ry h
  obtain ⟨F, a, b, d, sf, ha, hb, e, k⟩ := h
  unfold neD at e
  split at e
  · rename_i hab
    rw [Bool.and_eq_true] at hab
    cases e
    exact op_neD (by omega) pins s σ H _ _ v u Q I rx ry ⟨_, _, ha.dp sf (SeqAt.canLay_of_shaped hab.1), hb.dp sf (SeqAt.canLay_of_shaped hab.2), hab.1, hab.2, k _ F H (Gr.refl sf) (.bl _)⟩
  · cases e
theorem Da.non_iff {K : Kf} {F : Hp} {x : V} {a : D} (h : Da K F x a) : decide (x = .non) = isNon a := by
  cases h <;> rfl
theorem od_is : OpR X (compareOp .Is) (r2D X.kf isD) := by
  intro pins s σ H x y v u Q I rx ry h
  obtain ⟨F, a, b, d, sf, ha, hb, e, k⟩ := h
  unfold isD at e
  split at e
  · cases hb; cases e
    refine op_isN pins s σ H _ _ v u Q I rx ry ⟨rfl, ?_⟩
    rw [ha.non_iff]
    exact k _ F H (Gr.refl sf) (.bl _)
  · split at e
    · cases ha; cases hb; cases e
      exact op_is_bl pins s σ H _ _ v u Q I rx ry ⟨_, _, rfl, rfl, k _ F H (Gr.refl sf) (.bl _)⟩
    · cases e
  · cases e
theorem od_isn : OpR X (compareOp .IsNot) (r2D X.kf isnD) := by
  intro pins s σ H x y v u Q I rx ry h
  obtain ⟨F, a, b, d, sf, ha, hb, e, k⟩ := h
  unfold isnD at e
  split at e
  · cases hb; cases e
    refine op_notN pins s σ H _ _ v u Q I rx ry ⟨rfl, ?_⟩
    rw [ha.non_iff]
    exact k _ F H (Gr.refl sf) (.bl _)
  · split at e
    · cases ha; cases hb; cases e
      exact op_isnot_bl pins s σ H _ _ v u Q I rx ry ⟨_, _, rfl, rfl, k _ F H (Gr.refl sf) (.bl _)⟩
    · cases e
  · cases e
theorem any_toPys (a : D) : ∀ ys : List D, (toPys ys).any (fun z => PyData.eqv z (toPy a)) = ys.any fun z => deq z a
  | [] => by rw [toPys]; rfl
  | y :: ys => by
    rw [toPys, List.any_cons, List.any_cons, any_toPys a ys]
    rfl
theorem od_in (hu : X.A.units + 65 < cLine) : OpR X (compareOp .In) (r2D X.kf inD) := by
  intro pins s σ H x y v u Q I rx ry h
  obtain ⟨F, a, b, d, sf, ha, hb, e, k⟩ := h
  unfold inD at e
  split at e
  · split at e
    · rename_i hab
      rw [Bool.and_eq_true] at hab
      cases e
      obtain ⟨as, r1⟩ := Dp.reads I (toPy a) x v (ha.dp sf (SeqAt.canLay_of_shaped hab.1)) rx
      obtain ⟨bs, r2⟩ := Dp.reads I (toPy (.tup _)) y u (hb.dp sf (SeqAt.canLay_of_shaped hab.2)) ry
      refine SeqAt.in_tuple_reads (xs := toPys _) (by rw [toPy] at r2; exact r2) r1 (by have := SeqAt.canLay_of_shaped hab.2; rw [toPy] at this; exact this) (SeqAt.canLay_of_shaped hab.1) (room_in_shaped hab.1 hu) ?_
      rw [any_toPys]
      exact ⟨.bl _, H, I, rfl, k _ F H (Gr.refl sf) (.bl _)⟩
    · cases e
  · split at e
    · rename_i hab
      rw [Bool.and_eq_true] at hab
      cases e
      refine op_inD hu pins s σ H _ _ v u Q I rx ry ⟨toPy a, toPys _, ha.dp sf (SeqAt.canLay_of_shaped hab.1), by have := hb.dp sf (SeqAt.canLay_of_shaped hab.2); rw [toPy] at this; exact this, hab.1, by have := hab.2; unfold okD at this; rw [toPy] at this; exact this, ?_⟩
      rw [any_toPys]
      exact k _ F H (Gr.refl sf) (.bl _)
    · cases e
  · split at e
    · cases ha; cases hb; cases e
      exact op_in_str pins s σ H _ _ v u Q I rx ry ⟨_, _, rfl, rfl, k _ F H (Gr.refl sf) (.bl _)⟩
    · cases e
  · cases e
theorem od_nin (hu : X.A.units + 65 < cLine) : OpR X (compareOp .NotIn) (r2D X.kf ninD) := by
  intro pins s σ H x y v u Q I rx ry h
  obtain ⟨F, a, b, d, sf, ha, hb, e, k⟩ := h
  unfold ninD at e
  split at e
  · split at e
    · rename_i hab
      rw [Bool.and_eq_true] at hab
      cases e
      obtain ⟨as, r1⟩ := Dp.reads I (toPy a) x v (ha.dp sf (SeqAt.canLay_of_shaped hab.1)) rx
      obtain ⟨bs, r2⟩ := Dp.reads I (toPy (.tup _)) y u (hb.dp sf (SeqAt.canLay_of_shaped hab.2)) ry
      refine SeqAt.notIn_tuple_reads (xs := toPys _) (by rw [toPy] at r2; exact r2) r1 (by have := SeqAt.canLay_of_shaped hab.2; rw [toPy] at this; exact this) (SeqAt.canLay_of_shaped hab.1) (room_in_shaped hab.1 hu) ?_
      rw [any_toPys]
      exact ⟨.bl _, H, I, rfl, k _ F H (Gr.refl sf) (.bl _)⟩
    · cases e
  · split at e
    · rename_i hab
      rw [Bool.and_eq_true] at hab
      cases e
      refine op_notInD hu pins s σ H _ _ v u Q I rx ry ⟨toPy a, toPys _, ha.dp sf (SeqAt.canLay_of_shaped hab.1), by have := hb.dp sf (SeqAt.canLay_of_shaped hab.2); rw [toPy] at this; exact this, hab.1, by have := hab.2; unfold okD at this; rw [toPy] at this; exact this, ?_⟩
      rw [any_toPys]
      exact k _ F H (Gr.refl sf) (.bl _)
    · cases e
  · split at e
    · cases ha; cases hb; cases e
      exact op_notin_str pins s σ H _ _ v u Q I rx ry ⟨_, _, rfl, rfl, k _ F H (Gr.refl sf) (.bl _)⟩
    · cases e
  · cases e
end
end DL
end
section
namespace DL
open PySem PySem.Spec L2
open PyProof.Rows hiding St

/-! ### places and parts -/
theorem Das.atI {K : Kf} {F : Hp} {vs : List V} {ds : List D} {i : Int} {d : D} (h : Das K F vs ds) (e : atI ds i = some d) : ∃ v, atI vs i = some v ∧ Da K F v d := by
  unfold L2.atI at e ⊢
  obtain ⟨j, ej, e⟩ := bind_some_iff e
  obtain ⟨v, e1, e2⟩ := h.get e
  exact ⟨v, by rw [h.length, ej]; exact e1, e2⟩
def idxD : D → D → Option D
  | .tup xs, .int i => atI xs i
  | .lst xs, .int i => atI xs i
  | .scr ns, .int i => (atI ns i).map .int
  | .str l, .int i => if l.length ≤ sizeLine then (atI l i).map fun c => .str [c] else none
  | _, _ => none
theorem atI_map {α β : Type} (f : α → β) (xs : List α) (i : Int) : atI (xs.map f) i = (atI xs i).map f := by
  unfold L2.atI
  rw [List.length_map]
  cases ixN xs.length i with
  | none => rfl
  | some j => simp
def cut {α : Type} (xs : List α) (lo hi : Option Int) : List α := (xs.drop (HT.sIx xs.length 0 lo)).take (HT.sIx xs.length xs.length hi - HT.sIx xs.length 0 lo)
theorem Das.cut {K : Kf} {F : Hp} {vs : List V} {ds : List D} (lo hi : Option Int) (h : Das K F vs ds) : Das K F (cutV vs lo hi) (DL.cut ds lo hi) := by
  unfold cutV DL.cut
  rw [h.length]
  exact (h.drop _).take _
theorem cut_whole {α : Type} {xs : List α} {lo hi : Option Int} (h : HT.sIx xs.length 0 lo = 0 ∧ HT.sIx xs.length xs.length hi = xs.length) : cut xs lo hi = xs := by
  unfold cut
  rw [h.1, h.2]
  simp
def slcD (lo hi : Option Int) : D → Option D
  | .tup xs => some (.tup (cut xs lo hi))
  | .str l => if l.length ≤ sizeLine then some (.str (cut l lo hi)) else none
  | .lst xs => some (.lst (cut xs lo hi))
  | _ => none
theorem cutS_mk (l : List Nat) (lo hi : Option Int) : cutS (mkS l) lo hi = mkS (cut l lo hi) := by
  unfold cutS cut
  rw [mkS_length]

section
variable {X : Cx} {a b c e : Expr} {pos p : Pos} {fa fb fc : En → Option D}
theorem ixd : IxR X (r2D X.kf idxD) := by
  intro value slice pins s σ H x y v u Q I rx ry h hsl
  obtain ⟨F, a, b, d, sf, ha, hb, e, k⟩ := h
  unfold idxD at e
  split at e
  · cases hb
    cases ha with
    | tup h1 q1 =>
      obtain ⟨w, e1, e2⟩ := q1.atI e
      exact ix_seq value slice pins s σ H _ _ v u Q I rx ry (.inr (.inl ⟨_, _, _, w, rfl, rfl, sqT_same sf h1, e1, k _ F H (Gr.refl sf) e2⟩)) hsl
  · cases hb
    cases ha with
    | lst h1 q1 =>
      obtain ⟨w, e1, e2⟩ := q1.atI e
      exact ix_seq value slice pins s σ H _ _ v u Q I rx ry (.inl ⟨_, _, _, w, rfl, rfl, .of (sf _ _ h1), e1, k _ F H (Gr.refl sf) e2⟩) hsl
  · cases hb
    cases ha with
    | scr h1 =>
      obtain ⟨n, e1, rfl⟩ := Option.map_eq_some_iff.mp e
      exact ix_seq value slice pins s σ H _ _ v u Q I rx ry (.inl ⟨_, _, _, .int n, rfl, rfl, sf.seq h1, by rw [atI_map, e1]; rfl, k _ F H (Gr.refl sf) (.int n)⟩) hsl
  · split at e
    · rename_i hl
      cases hb
      cases ha
      obtain ⟨n, e1, rfl⟩ := Option.map_eq_some_iff.mp e
      exact ix_seq value slice pins s σ H _ _ v u Q I rx ry (.inr (.inr ⟨_, _, n, rfl, rfl, by rw [mkS_length]; exact hl, e1, k _ F H (Gr.refl sf) (.str [n])⟩)) hsl
    · cases e
  · cases e
theorem pd_idx (ha : PE X a (tD X.kf fa)) (hb : PE X b (tD X.kf fb)) (hs : PlainIx b) : PE X (.Subscript a b pos) (tD X.kf (bind2 idxD fa fb)) :=
  PEi (pe_ix ixd ha hb hs) fun _ _ _ h => tD_op h
/-- an optional part of a slice -/
def tDO (K : Kf) (f : En → Option (Option Int)) : TO := fun σ H Q => ∃ P F ρ o, Vw K P F H σ ρ ∧ f ρ = some o ∧ ∀ F' H', Gr F H F' H' → Q o H'
theorem POi {o : Option Expr} {t t' : TO} (h : PO X o t') (f : ∀ σ H Q, t σ H Q → t' σ H Q) : PO X o t := ⟨fun pins s σ H Q I w => h.run pins s σ H Q I (f _ _ _ w)⟩
def goN : En → Option (Option Int) := fun _ => some none
def goS (f : En → Option D) : En → Option (Option Int) := fun ρ => (f ρ).bind fun d => match d with | .int i => some (some i) | _ => none
theorem pdo_none : PO X none (tDO X.kf goN) := POi po_none fun σ H Q h => by
  obtain ⟨P, F, ρ, o, vw, e, k⟩ := h
  cases e
  exact k F H (Gr.refl vw.sub)
theorem pdo_some (h : PE X e (tD X.kf fa)) : PO X (some e) (tDO X.kf (goS fa)) := POi (po_some h) fun σ H Q h => by
  obtain ⟨P, F, ρ, o, vw, e, k⟩ := h
  obtain ⟨d, ed, e⟩ := bind_some_iff e
  refine ⟨P, F, ρ, d, vw, ed, fun v F1 H1 g1 q1 => ?_⟩
  split at e
  · cases e
    cases q1
    exact ⟨_, rfl, k F1 H1 g1⟩
  · cases e
theorem sld : SlR X (fun x lo hi H Q => ∃ F a d, Same F H ∧ Da X.kf F x a ∧ slcD lo hi a = some d ∧ ∀ v F' H', Gr F H F' H' → Da X.kf F' v d → Q v H') := by
  intro pins s σ H x v vl vu lo hi sl Q I rx hs pl pu h
  obtain ⟨F, a, d, sf, ha, e, k⟩ := h
  unfold slcD at e
  split at e
  · cases e
    cases ha with
    | tup h1 q1 =>
      refine sl_tupA pins s σ H _ v vl vu lo hi sl Q I rx hs pl pu ⟨_, _, rfl, sqT_same sf h1, fun hw => ?_, fun _ p hp => ?_⟩
      · rw [q1.length] at hw
        rw [cut_whole hw] at k
        exact k _ F H (Gr.refl sf) (.tup h1 q1)
      · exact k _ _ _ (Gr.laid sf hp) (.tup (.of upd_same) ((q1.cut lo hi).same (Gr.laid sf hp).ff))
  · split at e
    · cases e
      cases ha
      refine sl_str pins s σ H _ v vl vu lo hi sl Q I rx hs pl pu ⟨_, rfl, by rw [mkS_length]; assumption, ?_⟩
      rw [cutS_mk]
      exact k _ F H (Gr.refl sf) (.str _)
    · cases e
  · cases e
    cases ha with
    | lst h1 q1 =>
      exact sl_list pins s σ H _ v vl vu lo hi sl Q I rx hs pl pu ⟨_, _, rfl, .of (sf _ _ h1), fun p hp => k _ _ _ (Gr.laid sf hp) (.lst upd_same ((q1.cut lo hi).same (Gr.laid sf hp).ff))⟩
  · cases e
def gslc (fa : En → Option D) (fl fh : En → Option (Option Int)) : En → Option D := fun ρ => (fa ρ).bind fun d => (fl ρ).bind fun lo => (fh ρ).bind fun hi => slcD lo hi d
theorem pd_slc {lo hi : Option Expr} {fl fh : En → Option (Option Int)} (ha : PE X a (tD X.kf fa)) (hl : PO X lo (tDO X.kf fl)) (hh : PO X hi (tDO X.kf fh)) : PE X (.Subscript a (.Slice lo hi none p) pos) (tD X.kf (gslc fa fl fh)) := by
  refine PEi (pe_slice sld ha hl hh) fun σ H Q h => ?_
  obtain ⟨P, F, ρ, o, vw, e, k⟩ := h
  obtain ⟨d, ed, e⟩ := bind_some_iff e
  obtain ⟨l, el, e⟩ := bind_some_iff e
  obtain ⟨u, eu, e⟩ := bind_some_iff e
  exact ⟨P, F, ρ, d, vw, ed, fun v F1 H1 g1 q1 => ⟨P, F1, ρ, l, vw.grow g1, el, fun F2 H2 g2 => ⟨P, F2, ρ, u, (vw.grow g1).grow g2, eu, fun F3 H3 g3 => ⟨F3, d, o, g3.fh, (q1.same g2.ff).same g3.ff, e, fun w F4 H4 g4 q4 => k w F4 H4 (((g1.trans g2).trans g3).trans g4) q4⟩⟩⟩⟩

/-- xs + ys as a new list -/
def gcat (fa fb : En → Option D) : En → Option (List D) := fun ρ => (fa ρ).bind fun x => (fb ρ).bind fun y => catL x y
theorem pdl_cat (ha : PE X a (tD X.kf fa)) (hb : PE X b (tD X.kf fb)) : PE X (.BinOp a .Add b pos) (tDL X.kf (gcat fa fb)) := by
  refine PEi (pe_op od_catL ha hb) fun σ H Q h => ?_
  obtain ⟨P, F, ρ, ds, vw, e, k⟩ := h
  obtain ⟨x, ex, e⟩ := bind_some_iff e
  obtain ⟨y, ey, e⟩ := bind_some_iff e
  exact ⟨P, F, ρ, x, vw, ex, fun v F1 H1 g1 q1 => ⟨P, F1, ρ, y, vw.grow g1, ey, fun w F2 H2 g2 q2 => ⟨F2, x, y, ds, g2.fh, q1.same g2.ff, q2, e, fun p vs hp q => k p vs F2 _ ((g1.trans g2).trans (Gr.side g2.fh hp)) ((g1.trans g2).hh.free hp) (g2.fh.free hp) upd_same q⟩⟩⟩

/-! ### the call of a built-in -/
def bindS (g : List D → Option D) (fs : En → Option (List D)) : En → Option D := fun ρ => (fs ρ).bind g
theorem tD_cb {g : List D → Option D} {K : Kf} {fs : En → Option (List D)} {σ : St} {H : Hp} {Q : VK} (h : tD K (bindS g fs) σ H Q) : tCB (rsD K g) (tDA K fs) σ H Q := by
  obtain ⟨P, F, ρ, d, vw, e, k⟩ := h
  obtain ⟨xs, ex, e⟩ := bind_some_iff e
  exact ⟨P, F, ρ, xs, vw, ex, fun vs F1 H1 g1 q1 => ⟨F1, xs, d, g1.fh, q1, e, fun w F2 H2 g2 q2 => k w F2 H2 (g1.trans g2) q2⟩⟩
theorem pd_blt {x : Str} {id : String} {es : List Expr} {g : List D → Option D} {fs : En → Option (List D)} (hc : CallR X (.builtin id) (rsD X.kf g)) (hg : Gl X x) (hm : X.mg x = none) (hv : bootBuiltins x = some (.builtin id)) (ha : PA X (e :: es) (tDA X.kf fs))
    (hn : x ≠ "__name__") (hdb : (x == ("__debug__" : Str)) = false) (he : starEach (e :: es) X.env = (false, eval e X.env) :: starEach es X.env) (hpl : (backTo pos (starEach es X.env)).any (·.1) = false) :
    PE X (.Call (.Name x p) (e :: es) [] pos) (tD X.kf (bindS g fs)) := PEi (pe_callB hc hg hm hv ha hn hdb he hpl) fun _ _ _ h => tD_cb h
theorem pd_bty {x : Str} {T : String} {es : List Expr} {g : List D → Option D} {fs : En → Option (List D)} (hc : CallR X (.type T) (rsD X.kf g)) (hg : Gl X x) (hm : X.mg x = none) (hv : bootBuiltins x = some (.type T)) (ha : PA X (e :: es) (tDA X.kf fs))
    (hn : x ≠ "__name__") (hdb : (x == ("__debug__" : Str)) = false) (he : starEach (e :: es) X.env = (false, eval e X.env) :: starEach es X.env) (hpl : (backTo pos (starEach es X.env)).any (·.1) = false) :
    PE X (.Call (.Name x p) (e :: es) [] pos) (tD X.kf (bindS g fs)) := PEi (pe_callTy hc hg hm hv ha hn hdb he hpl) fun _ _ _ h => tD_cb h
def lenD : List D → Option D
  | [.str l] => if l.length ≤ sizeLine then some (.int l.length) else none
  | [.lst xs] => some (.int xs.length)
  | [.tup xs] => some (.int xs.length)
  | [.scr ns] => some (.int ns.length)
  | _ => none
theorem Das.one {K : Kf} {F : Hp} {xs : List V} {a : D} (h : Das K F xs [a]) : ∃ x, xs = [x] ∧ Da K F x a := by
  cases h with
  | cons h t =>
    cases t
    exact ⟨_, rfl, h⟩
theorem Das.two {K : Kf} {F : Hp} {xs : List V} {a b : D} (h : Das K F xs [a, b]) : ∃ x y, xs = [x, y] ∧ Da K F x a ∧ Da K F y b := by
  cases h with
  | cons h t =>
    obtain ⟨y, rfl, hy⟩ := t.one
    exact ⟨_, y, rfl, h, hy⟩
theorem cd_len : CallR X (.builtin "len") (rsD X.kf lenD) := by
  intro pins s σ H xs us Q I r h
  obtain ⟨F, as, d, sf, ha, e, k⟩ := h
  unfold lenD at e
  split at e
  · obtain ⟨x, rfl, h1⟩ := ha.one
    cases h1
    split at e
    · cases e
      exact call_len pins s σ H _ us Q I r ⟨_, _, rfl, ⟨by rw [mkS_length]; assumption, rfl⟩, by rw [mkS_length]; exact k _ F H (Gr.refl sf) (.int _)⟩
    · cases e
  · obtain ⟨x, rfl, h1⟩ := ha.one
    cases e
    cases h1 with
    | lst h2 q2 => exact call_len pins s σ H _ us Q I r ⟨_, _, rfl, .inl ⟨_, .of (sf _ _ h2), rfl⟩, by rw [q2.length]; exact k _ F H (Gr.refl sf) (.int _)⟩
  · obtain ⟨x, rfl, h1⟩ := ha.one
    cases e
    cases h1 with
    | tup h2 q2 => exact call_len pins s σ H _ us Q I r ⟨_, _, rfl, .inr ⟨_, sqT_same sf h2, rfl⟩, by rw [q2.length]; exact k _ F H (Gr.refl sf) (.int _)⟩
  · obtain ⟨x, rfl, h1⟩ := ha.one
    cases e
    cases h1 with
    | scr h2 => exact call_len pins s σ H _ us Q I r ⟨_, _, rfl, .inl ⟨_, sf.seq h2, rfl⟩, by rw [List.length_map]; exact k _ F H (Gr.refl sf) (.int _)⟩
  · cases e
def tupD : List D → Option D
  | [.lst xs] => some (.tup xs)
  | [.tup xs] => some (.tup xs)
  | _ => none
theorem cd_tuple : CallR X (.type "tuple") (rsD X.kf tupD) := by
  intro pins s σ H xs us Q I r h
  obtain ⟨F, as, d, sf, ha, e, k⟩ := h
  unfold tupD at e
  split at e
  · obtain ⟨x, rfl, h1⟩ := ha.one
    cases e
    cases h1 with
    | lst h2 q2 => exact call_tuple_of pins s σ H _ us Q I r ⟨_, _, rfl, .inl ⟨.of (sf _ _ h2), fun l hl => k _ _ _ (Gr.laid sf hl) (.tup (.of upd_same) (q2.same (Gr.laid sf hl).ff))⟩⟩
  · obtain ⟨x, rfl, h1⟩ := ha.one
    cases e
    cases h1 with
    | tup h2 q2 => exact call_tuple_of pins s σ H _ us Q I r ⟨_, _, rfl, .inr ⟨sqT_same sf h2, k _ F H (Gr.refl sf) (.tup h2 q2)⟩⟩
  · cases e
def listD : List D → Option D
  | [.lst xs] => some (.lst xs)
  | [.tup xs] => some (.lst xs)
  | _ => none
theorem cd_list : CallR X (.type "list") (rsD X.kf listD) := by
  intro pins s σ H xs us Q I r h
  obtain ⟨F, as, d, sf, ha, e, k⟩ := h
  unfold listD at e
  split at e
  · obtain ⟨x, rfl, h1⟩ := ha.one
    cases e
    cases h1 with
    | lst h2 q2 => exact call_list_of pins s σ H _ us Q I r ⟨_, _, rfl, .inl (.of (sf _ _ h2)), fun l hl => k _ _ _ (Gr.laid sf hl) (.lst upd_same (q2.same (Gr.laid sf hl).ff))⟩
  · obtain ⟨x, rfl, h1⟩ := ha.one
    cases e
    cases h1 with
    | tup h2 q2 => exact call_list_of pins s σ H _ us Q I r ⟨_, _, rfl, .inr (sqT_same sf h2), fun l hl => k _ _ _ (Gr.laid sf hl) (.lst upd_same (q2.same (Gr.laid sf hl).ff))⟩
  · cases e
/-- a list of bools, of ints, of texts -/
def asBls : List D → Option (List Bool)
  | [] => some []
  | .bl b :: r => (asBls r).map (b :: ·)
  | _ => none
theorem asBls_some : ∀ {xs : List D} {bs : List Bool}, asBls xs = some bs → xs = bs.map D.bl
  | [], _, h => by cases h; rfl
  | .bl b :: r, _, h => by
    obtain ⟨t, et, rfl⟩ := Option.map_eq_some_iff.mp h
    rw [asBls_some et]
    rfl
  | .non :: _, _, h | .int _ :: _, _, h | .str _ :: _, _, h | .lst _ :: _, _, h | .tup _ :: _, _, h | .scr _ :: _, _, h | .dic _ _ :: _, _, h | .btp _ :: _, _, h => by cases h
theorem asBls_map : ∀ bs : List Bool, asBls (bs.map D.bl) = some bs
  | [] => rfl
  | b :: bs => by show (asBls (bs.map D.bl)).map (b :: ·) = _; rw [asBls_map bs]; rfl
def asInts : List D → Option (List Int)
  | [] => some []
  | .int b :: r => (asInts r).map (b :: ·)
  | _ => none
theorem asInts_some : ∀ {xs : List D} {bs : List Int}, asInts xs = some bs → xs = bs.map D.int
  | [], _, h => by cases h; rfl
  | .int b :: r, _, h => by
    obtain ⟨t, et, rfl⟩ := Option.map_eq_some_iff.mp h
    rw [asInts_some et]
    rfl
  | .non :: _, _, h | .bl _ :: _, _, h | .str _ :: _, _, h | .lst _ :: _, _, h | .tup _ :: _, _, h | .scr _ :: _, _, h | .dic _ _ :: _, _, h | .btp _ :: _, _, h => by cases h
theorem asInts_map : ∀ bs : List Int, asInts (bs.map D.int) = some bs
  | [] => rfl
  | b :: bs => by show (asInts (bs.map D.int)).map (b :: ·) = _; rw [asInts_map bs]; rfl
def asStrs : List D → Option (List (List Nat))
  | [] => some []
  | .str b :: r => (asStrs r).map (b :: ·)
  | _ => none
theorem asStrs_some : ∀ {xs : List D} {bs : List (List Nat)}, asStrs xs = some bs → xs = bs.map D.str
  | [], _, h => by cases h; rfl
  | .str b :: r, _, h => by
    obtain ⟨t, et, rfl⟩ := Option.map_eq_some_iff.mp h
    rw [asStrs_some et]
    rfl
  | .non :: _, _, h | .bl _ :: _, _, h | .int _ :: _, _, h | .lst _ :: _, _, h | .tup _ :: _, _, h | .scr _ :: _, _, h | .dic _ _ :: _, _, h | .btp _ :: _, _, h => by cases h
theorem asStrs_map : ∀ bs : List (List Nat), asStrs (bs.map D.str) = some bs
  | [] => rfl
  | b :: bs => by show (asStrs (bs.map D.str)).map (b :: ·) = _; rw [asStrs_map bs]; rfl
def allD : List D → Option D
  | [.lst xs] => (asBls xs).map fun bs => .bl (bs.all id)
  | _ => none
def anyD : List D → Option D
  | [.lst xs] => (asBls xs).map fun bs => .bl (bs.any id)
  | _ => none
def sumD : List D → Option D
  | [.lst xs] => (asInts xs).map fun ns => .int ns.sum
  | [.tup xs] => (asInts xs).map fun ns => .int ns.sum
  | _ => none
theorem cd_all (hc : X.calm = true) : CallR X (.builtin "all") (rsD X.kf allD) := by
  intro pins s σ H xs us Q I r h
  obtain ⟨F, as, d, sf, ha, e, k⟩ := h
  unfold allD at e
  split at e
  · obtain ⟨x, rfl, h1⟩ := ha.one
    obtain ⟨bs, eb, rfl⟩ := Option.map_eq_some_iff.mp e
    cases h1 with
    | lst h2 q2 =>
      rw [asBls_some eb] at q2
      exact cr_all hc pins s σ H _ us Q I r ⟨_, bs, rfl, .of (by rw [← q2.of_bls]; exact sf _ _ h2), k _ F H (Gr.refl sf) (.bl _)⟩
  · cases e
theorem cd_any (hc : X.calm = true) : CallR X (.builtin "any") (rsD X.kf anyD) := by
  intro pins s σ H xs us Q I r h
  obtain ⟨F, as, d, sf, ha, e, k⟩ := h
  unfold anyD at e
  split at e
  · obtain ⟨x, rfl, h1⟩ := ha.one
    obtain ⟨bs, eb, rfl⟩ := Option.map_eq_some_iff.mp e
    cases h1 with
    | lst h2 q2 =>
      rw [asBls_some eb] at q2
      exact cr_any hc pins s σ H _ us Q I r ⟨_, bs, rfl, .of (by rw [← q2.of_bls]; exact sf _ _ h2), k _ F H (Gr.refl sf) (.bl _)⟩
  · cases e
theorem cd_sum (hc : X.calm = true) : CallR X (.builtin "sum") (rsD X.kf sumD) := by
  intro pins s σ H xs us Q I r h
  obtain ⟨F, as, d, sf, ha, e, k⟩ := h
  unfold sumD at e
  split at e
  · obtain ⟨x, rfl, h1⟩ := ha.one
    obtain ⟨bs, eb, rfl⟩ := Option.map_eq_some_iff.mp e
    cases h1 with
    | lst h2 q2 =>
      rw [asInts_some eb] at q2
      exact cr_sum hc pins s σ H _ us Q I r ⟨_, bs, rfl, .of (by rw [← q2.of_ints]; exact sf _ _ h2), k _ F H (Gr.refl sf) (.int _)⟩
  · obtain ⟨x, rfl, h1⟩ := ha.one
    obtain ⟨bs, eb, rfl⟩ := Option.map_eq_some_iff.mp e
    cases h1 with
    | tup h2 q2 =>
      rw [asInts_some eb] at q2
      rw [q2.of_ints] at h2
      obtain ⟨its, rv, ht, _⟩ := I.tuple (sqT_same sf h2)
      have hi := intsAre_of rv
      obtain ⟨zs, hz⟩ := hi.allInts.items
      have hn : numsOf its.toArray.toList = bs := hi.numsOf
      rw [hz, nums_intItems] at hn
      rw [Vals.ref1 r]
      refine PySem.W.ktm_sumG (I.ok.hd hc) (show s.heap.IsTuple _ (intItems zs) from hz ▸ ht) fun h' tk t' hk => ⟨.int bs.sum, H, I.kept hk, ⟨t', ?_⟩, k _ F H (Gr.refl sf) (.int _)⟩
      rw [preSum_eq, List.take_of_length_le (by simp), hn]
  · cases e
def absD : List D → Option D
  | [.int i] => some (.int (if i < 0 then -i else i))
  | _ => none
theorem cd_abs : CallR X (.builtin "abs") (rsD X.kf absD) := by
  intro pins s σ H xs us Q I r h
  obtain ⟨F, as, d, sf, ha, e, k⟩ := h
  unfold absD at e
  split at e
  · obtain ⟨x, rfl, h1⟩ := ha.one
    cases e
    cases h1
    exact call_abs pins s σ H _ us Q I r ⟨_, rfl, k _ F H (Gr.refl sf) (.int _)⟩
  · cases e

def minD : List D → Option D
  | [.int i, .int j] => some (.int (if j < i then j else i))
  | _ => none
def maxD : List D → Option D
  | [.int i, .int j] => some (.int (if j > i then j else i))
  | _ => none
theorem cd_min (hc : X.calm = true) : CallR X (.builtin "min") (rsD X.kf minD) := by
  intro pins s σ H xs us Q I r h
  obtain ⟨F, as, d, sf, ha, e, k⟩ := h
  unfold minD at e
  split at e
  · obtain ⟨x, y, rfl, h1, h2⟩ := ha.two
    cases e
    cases h1
    cases h2
    exact call_min2 hc pins s σ H _ us Q I r ⟨_, _, rfl, k _ F H (Gr.refl sf) (.int _)⟩
  · cases e
theorem cd_max (hc : X.calm = true) : CallR X (.builtin "max") (rsD X.kf maxD) := by
  intro pins s σ H xs us Q I r h
  obtain ⟨F, as, d, sf, ha, e, k⟩ := h
  unfold maxD at e
  split at e
  · obtain ⟨x, y, rfl, h1, h2⟩ := ha.two
    cases e
    cases h1
    cases h2
    exact call_max2 hc pins s σ H _ us Q I r ⟨_, _, rfl, k _ F H (Gr.refl sf) (.int _)⟩
  · cases e

/-! ### methods of texts -/
def meth1 (g : D → D → Option D) (fa fb : En → Option D) : En → Option D := fun ρ => (fa ρ).bind fun x => match x with
  | .str l => (fb ρ).bind fun y => g (.str l) y
  | _ => none
def r2M (K : Kf) (g : D → D → Option D) : V → List V → Hp → VK → Prop := fun x ys H Q => ∃ F a b d y, ys = [y] ∧ Same F H ∧ Da K F x a ∧ Da K F y b ∧ g a b = some d ∧ ∀ v F' H', Gr F H F' H' → Da K F' v d → Q v H'
theorem pd_m1 {id : String} {name : Str} {apos : Pos} {g : D → D → Option D} (slot : Slot "str" name id) (ty : typeOf (.builtin id) = pure (.type "method_descriptor")) (rule : MtR X id (r2M X.kf g)) (ho : PE X a (tD X.kf fa)) (he : PE X b (tD X.kf fb))
    (hs : starEach [b] X.env = [(false, eval b X.env)]) (hbase : attributeBase a name X.env (eval a X.env) = eval a X.env) (hline : (apos.endLine == pos.line) = true) :
    PE X (.Call (.Attribute a name apos) [b] [] pos) (tD X.kf (meth1 g fa fb)) := by
  refine PEi (pe_m1 slot ty rule ho he hs hbase hline) fun σ H Q h => ?_
  obtain ⟨P, F, ρ, d, vw, e, k⟩ := h
  obtain ⟨x, ex, e⟩ := bind_some_iff e
  split at e
  · obtain ⟨y, ey, e⟩ := bind_some_iff e
    refine ⟨P, F, ρ, _, vw, ex, fun v F1 H1 g1 q1 => ?_⟩
    cases q1
    exact ⟨⟨_, rfl⟩, P, F1, ρ, y, vw.grow g1, ey, fun w F2 H2 g2 q2 => ⟨F2, _, y, d, w, rfl, g2.fh, .str _, q2, e, fun z F3 H3 g3 q3 => k z F3 H3 ((g1.trans g2).trans g3) q3⟩⟩
  · cases e
def startsD : D → D → Option D
  | .str a, .str b => some (.bl (Txt.startswith (mkS a) (mkS b)))
  | _, _ => none
def endsD : D → D → Option D
  | .str a, .str b => some (.bl (Txt.endswith (mkS a) (mkS b)))
  | _, _ => none
def countD : D → D → Option D
  | .str a, .str b => some (.int (Txt.count (mkS a) (mkS b)))
  | _, _ => none
theorem md_starts : MtR X "str.startswith" (r2M X.kf startsD) := by
  intro pins s σ H x xs v us Q I rx rxs h
  obtain ⟨F, a, b, d, y, rfl, sf, ha, hb, e, k⟩ := h
  unfold startsD at e
  split at e
  · cases ha; cases hb; cases e
    exact mt_startswith pins s σ H _ _ v us Q I rx rxs ⟨_, _, rfl, rfl, k _ F H (Gr.refl sf) (.bl _)⟩
  · cases e
theorem md_ends : MtR X "str.endswith" (r2M X.kf endsD) := by
  intro pins s σ H x xs v us Q I rx rxs h
  obtain ⟨F, a, b, d, y, rfl, sf, ha, hb, e, k⟩ := h
  unfold endsD at e
  split at e
  · cases ha; cases hb; cases e
    exact mt_endswith pins s σ H _ _ v us Q I rx rxs ⟨_, _, rfl, rfl, k _ F H (Gr.refl sf) (.bl _)⟩
  · cases e
theorem md_count : MtR X "str.count" (r2M X.kf countD) := by
  intro pins s σ H x xs v us Q I rx rxs h
  obtain ⟨F, a, b, d, y, rfl, sf, ha, hb, e, k⟩ := h
  unfold countD at e
  split at e
  · cases ha; cases hb; cases e
    exact mt_count pins s σ H _ _ v us Q I rx rxs ⟨_, _, rfl, rfl, k _ F H (Gr.refl sf) (.int _)⟩
  · cases e
/-- sep.join(list or tuple of texts) -/
def joinD : D → D → Option D
  | .str a, .lst xs => (asStrs xs).bind fun ls => if (ls.map List.length).sum + ls.length * a.length ≤ 16777216 then some (.str (TL.joinL a ls)) else none
  | .str a, .tup xs => (asStrs xs).bind fun ls => if (ls.map List.length).sum + ls.length * a.length ≤ 16777216 then some (.str (TL.joinL a ls)) else none
  | _, _ => none
theorem join_mk (a : List Nat) (ls : List (List Nat)) : Txt.join (mkS a) (ls.map mkS) = mkS (TL.joinL a ls) := by
  rw [TL.join_eq]
  refine TL.ext_tl ?_
  rw [TL.tl_join, List.map_map]
  have : (TL.tl ∘ mkS) = id := funext fun l => rfl
  rw [this, List.map_id]
theorem lens_mk : ∀ ls : List (List Nat), ((ls.map mkS).map (·.length)).sum = (ls.map List.length).sum
  | [] => rfl
  | l :: ls => by
    rw [List.map_cons, List.map_cons, List.map_cons, List.sum_cons, List.sum_cons, lens_mk ls, mkS_length]
theorem md_join : MtR X "str.join" (r2M X.kf joinD) := by
  intro pins s σ H x xs v us Q I rx rxs h
  obtain ⟨F, a, b, d, y, rfl, sf, ha, hb, e, k⟩ := h
  unfold joinD at e
  split at e
  · obtain ⟨ls, el, e⟩ := bind_some_iff e
    split at e
    · rename_i hl
      cases e
      cases ha
      cases hb with
      | lst h2 q2 =>
        rw [asStrs_some el] at q2
        refine mt_join pins s σ H _ _ v us Q I rx rxs ⟨_, _, ls.map mkS, rfl, rfl, .inl (.of (by rw [← q2.of_strs]; exact sf _ _ h2)), by rw [lens_mk, List.length_map, mkS_length]; exact hl, ?_⟩
        rw [join_mk]
        exact k _ F H (Gr.refl sf) (.str _)
    · cases e
  · obtain ⟨ls, el, e⟩ := bind_some_iff e
    split at e
    · rename_i hl
      cases e
      cases ha
      cases hb with
      | tup h2 q2 =>
        rw [asStrs_some el] at q2
        refine mt_join pins s σ H _ _ v us Q I rx rxs ⟨_, _, ls.map mkS, rfl, rfl, .inr (by rw [← q2.of_strs]; exact sqT_same sf h2), by rw [lens_mk, List.length_map, mkS_length]; exact hl, ?_⟩
        rw [join_mk]
        exact k _ F H (Gr.refl sf) (.str _)
    · cases e
  · cases e

/-- text.split(one sign) -/
def splitL (c : Nat) : List Nat → List (List Nat)
  | [] => [[]]
  | x :: r => if x = c then [] :: splitL c r else match splitL c r with
    | [] => [[x]]
    | w :: ws => (x :: w) :: ws
theorem splitL_ne (c : Nat) : ∀ l : List Nat, splitL c l ≠ []
  | [] => by simp [splitL]
  | x :: r => by
    unfold splitL
    split
    · simp
    · split <;> simp
theorem splitL_join (c : Nat) : ∀ l : List Nat, TL.joinL [c] (splitL c l) = l
  | [] => rfl
  | x :: r => by
    have ih := splitL_join c r
    have hn := splitL_ne c r
    unfold splitL
    split
    · rename_i h
      subst h
      cases e : splitL x r with
      | nil => exact absurd e hn
      | cons w ws =>
        rw [e] at ih
        show [] ++ ([x] ++ TL.joinL [x] (w :: ws)) = x :: r
        rw [ih]
        rfl
    · cases e : splitL c r with
      | nil => exact absurd e hn
      | cons w ws =>
        rw [e] at ih
        show TL.joinL [c] ((x :: w) :: ws) = x :: r
        cases ws with
        | nil =>
          change w = r at ih
          subst ih
          rfl
        | cons w' ws' =>
          change w ++ ([c] ++ TL.joinL [c] (w' :: ws')) = r at ih
          show (x :: w) ++ ([c] ++ TL.joinL [c] (w' :: ws')) = x :: r
          rw [← ih]
          rfl
theorem splitL_free (c : Nat) : ∀ l : List Nat, ∀ p ∈ splitL c l, c ∉ p
  | [], p, hp => by
    simp [splitL] at hp
    subst hp
    simp
  | x :: r, p, hp => by
    have ih := splitL_free c r
    unfold splitL at hp
    split at hp
    · rcases List.mem_cons.mp hp with rfl | hp
      · simp
      · exact ih p hp
    · rename_i hx
      split at hp
      · simp at hp
        subst hp
        simp
        exact fun z => hx z.symm
      · rename_i w ws ew
        rcases List.mem_cons.mp hp with rfl | hp
        · intro hc
          rcases List.mem_cons.mp hc with z | z
          · exact hx z.symm
          · exact ih w (by rw [ew]; exact List.mem_cons_self ..) z
        · exact ih p (by rw [ew]; exact List.mem_cons_of_mem _ hp)
theorem split_mk {c : Nat} (hc : c < 256) (l : List Nat) : Txt.split (mkS l) (mkS [c]) = (splitL c l).map mkS := by
  have e : mkS l = Txt.join (mkS [c]) ((splitL c l).map mkS) := by rw [join_mk, splitL_join]
  rw [e]
  refine TL.split_join (s := c) (S := []) rfl (by simp [mkS, hc]) (fun z => splitL_ne c l (List.map_eq_nil_iff.mp z)) fun p hp => ?_
  obtain ⟨q, hq, rfl⟩ := List.mem_map.mp hp
  exact splitL_free c l q hq
def splitD : D → D → Option D
  | .str a, .str [c] => if c < 256 ∧ a.length + 2 ≤ sizeLine then some (.lst ((splitL c a).map D.str)) else none
  | _, _ => none
theorem md_split : MtR X "str.split" (r2M X.kf splitD) := by
  intro pins s σ H x xs v us Q I rx rxs h
  obtain ⟨F, a, b, d, y, rfl, sf, ha, hb, e, k⟩ := h
  unfold splitD at e
  split at e
  · split at e
    · rename_i a c hh
      cases ha; cases hb; cases e
      refine mt_split pins s σ H _ _ v us Q I rx rxs ⟨_, _, rfl, rfl, rfl, by rw [mkS_length]; exact hh.2, fun p hp => ?_⟩
      rw [split_mk hh.1]
      exact k _ _ _ (Gr.laid sf hp) (.lst upd_same (Das.strs _))
    · cases e
  · cases e

/-! ### isinstance with built-in types -/
def tyN : D → String
  | .non => "NoneType" | .bl _ => "bool" | .int _ => "int" | .str _ => "str" | .lst _ => "list" | .tup _ => "tuple" | .scr _ => "list" | .dic _ _ => "dict" | .btp _ => "tuple"
def isScr : D → Bool
  | .scr _ => true
  | .dic _ _ => true
  | .btp _ => true
  | _ => false
theorem ty_of {K : Kf} {F H : Hp} {v : V} {d : D} (sf : Same F H) (h : Da K F v d) (hs : ¬ isScr d = true) : TyX K H v (.type (tyN d)) := by
  cases h with
  | non => exact .base .non
  | bl b => exact .base (.bl b)
  | int i => exact .base (.int i)
  | str l => exact .base (.str _)
  | lst h q => exact .base (.lst (sf _ _ h))
  | tup h q =>
    rcases h with (h | ⟨o, h⟩) | ⟨o, its, n, h, hc, _⟩
    · exact .base (.tup (sf _ _ h))
    · exact .fTuple (sf _ _ h)
    · exact .kTuple h hc
  | scr h => exact absurd rfl hs
  | dic h l q => exact absurd rfl hs
  | btp h n q => exact absurd rfl hs
def isiD (T : String) (d : D) : Option D := if isScr d then none else (kitB (tyN d) T).map .bl
theorem pd_isi {T : String} {tx : Str} {p2 : Pos} (hg : Gl X "isinstance") (hm : X.mg "isinstance" = none) (hgT : Gl X tx) (hmT : X.mg tx = none) (hvT : bootBuiltins tx = some (.type T)) (hnT : tx ≠ "__name__") (hdT : (tx == ("__debug__" : Str)) = false)
    (ha : PE X a (tD X.kf fa)) (he : starEach [a, .Name tx p2] X.env = (false, eval a X.env) :: starEach [.Name tx p2] X.env) : PE X (.Call (.Name "isinstance" p) [a, .Name tx p2] [] pos) (tD X.kf (bind1 (isiD T) fa)) := by
  refine PEi (pe_callB call_isi hg hm (by decide +kernel) (pa_cons ha (pa_cons (pe_bltn (v := .ty T) hgT hmT hvT rfl hnT hdT) pa_nil rfl) he) (by decide) (by decide) he rfl) fun σ H Q h => ?_
  obtain ⟨P, F, ρ, d, vw, e, k⟩ := h
  obtain ⟨x, ex, e⟩ := bind_some_iff e
  refine ⟨P, F, ρ, x, vw, ex, fun v F1 H1 g1 q1 => ?_⟩
  unfold isiD at e
  split at e
  · cases e
  · rename_i hns
    obtain ⟨r, er, rfl⟩ := Option.map_eq_some_iff.mp e
    exact ⟨v, .ty T, _, _, r, rfl, .ty T, ty_of g1.fh q1 hns, kit_ty er, k _ F1 H1 g1 (.bl _)⟩
def isi2D (T U : String) (d : D) : Option D := if isScr d then none else (kitB (tyN d) T).bind fun b => if b then some (.bl true) else (kitB (tyN d) U).map .bl
theorem pd_isi2 {T U : String} {tx ux : Str} {p2 p3 p4 : Pos} {n : Nat} (hg : Gl X "isinstance") (hm : X.mg "isinstance" = none) (hgT : Gl X tx) (hmT : X.mg tx = none) (hvT : bootBuiltins tx = some (.type T)) (hnT : tx ≠ "__name__") (hdT : (tx == ("__debug__" : Str)) = false)
    (hgU : Gl X ux) (hmU : X.mg ux = none) (hvU : bootBuiltins ux = some (.type U)) (hnU : ux ≠ "__name__") (hdU : (ux == ("__debug__" : Str)) = false)
    (ha : PE X a (tD X.kf fa)) (he : starEach [a, .Tuple [.Name tx p2, .Name ux p3] n p4] X.env = (false, eval a X.env) :: starEach [.Tuple [.Name tx p2, .Name ux p3] n p4] X.env) : PE X (.Call (.Name "isinstance" p) [a, .Tuple [.Name tx p2, .Name ux p3] n p4] [] pos) (tD X.kf (bind1 (isi2D T U) fa)) := by
  refine PEi (pe_callB call_isiT hg hm (by decide +kernel) (pa_cons ha (pa_cons (pe_tup (pa_cons (pe_bltn (v := .ty T) hgT hmT hvT rfl hnT hdT) (pa_cons (pe_bltn (v := .ty U) hgU hmU hvU rfl hnU hdU) pa_nil rfl) rfl)) pa_nil rfl) he) (by decide) (by decide) he rfl) fun σ H Q h => ?_
  obtain ⟨P, F, ρ, d, vw, e, k⟩ := h
  obtain ⟨x, ex, e⟩ := bind_some_iff e
  refine ⟨P, F, ρ, x, vw, ex, fun v F1 H1 g1 q1 => ⟨by show 2 ≤ sizeLine; decide, fun tp htp => ?_⟩⟩
  unfold isi2D at e
  split at e
  · cases e
  · rename_i hns
    obtain ⟨r, er, e⟩ := bind_some_iff e
    have g2 := Gr.side (o := .tup [.ty T, .ty U]) g1.fh htp
    have ty : TyX X.kf (upd H1 tp (.tup [.ty T, .ty U])) v (.type (tyN x)) := ty_of g2.fh q1 hns
    cases r with
    | true =>
      cases e
      exact ⟨v, tp, _, _, [.type T, .type U], true, rfl, upd_same, .cons (.ty T) (.cons (.ty U) .nil), ty, kitAny_cons (kit_ty er) (fun z => nomatch z) (fun _ => rfl), k _ _ _ (g1.trans g2) (.bl _)⟩
    | false =>
      obtain ⟨r2, er2, rfl⟩ := Option.map_eq_some_iff.mp e
      exact ⟨v, tp, _, _, [.type T, .type U], r2, rfl, upd_same, .cons (.ty T) (.cons (.ty U) .nil), ty, kitAny_cons (kit_ty er) (fun _ => kitAny_cons (kit_ty er2) (fun z => by subst z; exact kitAny_nil) (fun z => z)) (fun z => nomatch z), k _ _ _ (g1.trans g2) (.bl _)⟩

/-! ### the call of an own def -/
def spD (K : Kf) (n : Nat) (g : List D → Option D) : Sp := fun vs H Q _ => vs.length = n ∧ ∃ F ds d, Same F H ∧ Das K F vs ds ∧ g ds = some d ∧ ∀ v F' H', Gr F H F' H' → Da K F' v d → Q v H'
theorem pd_call {k : Nat} {f : Addr} {fd : FuncData} {ps : List Str} {n : Nat} {g : List D → Option D} {x : Str} {es : List Expr} {fs : En → Option (List D)} (G : FnOk X.prog X.w X.kf X.mg X.base CX0 k f fd ps (spD X.kf n g)) (hn : ∀ ρ ds, fs ρ = some ds → ds.length = n) (hr : Room k X.A) (hg : Gl X x) (hm : X.mg x = some (.ref f))
    (hk : PySem.W.keepIn X.kf (.ref f) = true) (hb : Binds X.kf fd ps []) (ha : PA X (e :: es) (tDA X.kf fs)) (hdb : (x == ("__debug__" : Str)) = false) (he : starEach (e :: es) X.env = (false, eval e X.env) :: starEach es X.env) (hpl : (backTo pos (starEach es X.env)).any (·.1) = false) :
    PE X (.Call (.Name x p) (e :: es) [] pos) (tD X.kf (bindS g fs)) := by
  refine PEi (pe_call G hr hg hm hk hb .nil pass0 ha hdb he hpl) fun σ H Q h => ?_
  obtain ⟨P, F, ρ, d, vw, e, k⟩ := h
  obtain ⟨xs, ex, e⟩ := bind_some_iff e
  refine ⟨P, F, ρ, xs, vw, ex, fun vs F1 H1 g1 q1 => ?_⟩
  show spD X.kf n g (vs ++ []) H1 Q E0
  rw [List.append_nil]
  exact ⟨by rw [q1.length]; exact hn _ _ ex, F1, xs, d, g1.fh, q1, e, fun w F2 H2 g2 q2 => k w F2 H2 (g1.trans g2) q2⟩
end
end DL
end
section
namespace DL
open PySem PySem.Spec L2
open PyProof.Rows hiding St

/-! ### targets -/
mutual
inductive Tg where
  | nm (i : Nat)
  | tp (ts : Tgs)
inductive Tgs where
  | nil
  | cons (t : Tg) (ts : Tgs)
end
def tupOf : D → Option (List D)
  | .tup xs => some xs
  | _ => none
theorem tupOf_some {d : D} {xs : List D} (h : tupOf d = some xs) : d = .tup xs := by
  unfold tupOf at h
  split at h
  · cases h
    rfl
  · cases h
mutual
def asg : Tg → D → En → Option En
  | .nm i, d, ρ => some (ρ.set i (.d d))
  | .tp ts, d, ρ => (tupOf d).bind fun xs => asgs ts xs ρ
def asgs : Tgs → List D → En → Option En
  | .nil, [], ρ => some ρ
  | .nil, _ :: _, _ => none
  | .cons _ _, [], _ => none
  | .cons t ts, x :: xs, ρ => (asg t x ρ).bind fun ρ' => asgs ts xs ρ'
end
mutual
def Tg.slots : Tg → List Nat
  | .nm i => [i]
  | .tp ts => ts.slots
def Tgs.slots : Tgs → List Nat
  | .nil => []
  | .cons t ts => t.slots ++ ts.slots
end
def Tgs.len : Tgs → Nat
  | .nil => 0
  | .cons _ ts => ts.len + 1
theorem asgs_len : ∀ {ts : Tgs} {xs : List D} {ρ ρ' : En}, asgs ts xs ρ = some ρ' → xs.length = ts.len
  | .nil, [], _, _, _ => rfl
  | .nil, _ :: _, _, _, h => by rw [asgs] at h; cases h
  | .cons t ts, [], _, _, h => by rw [asgs] at h; cases h
  | .cons t ts, x :: xs, ρ, ρ', h => by
    rw [asgs] at h
    obtain ⟨ρ1, _, h⟩ := bind_some_iff h
    rw [List.length_cons, asgs_len h]
    rfl
theorem wipe_get (σ : St) (j : Nat) : ∀ vs : List Nat, (wipe σ vs)[j]? = if j ∈ vs then σ[j]?.map (fun _ => none) else σ[j]?
  | [] => by simp [wipe]
  | v :: vs => by
    unfold wipe
    have ih := wipe_get σ j vs
    by_cases hj : v = j
    · subst hj
      simp only [List.mem_cons, true_or, if_true]
      by_cases hl : v < σ.length
      · rw [List.getElem?_set_self (by rw [wipe_length]; exact hl), List.getElem?_eq_getElem hl]
        rfl
      · rw [List.getElem?_eq_none (by rw [List.length_set, wipe_length]; omega), List.getElem?_eq_none (by omega)]
        rfl
    · rw [List.getElem?_set_ne hj, ih]
      by_cases hm : j ∈ vs
      · rw [if_pos hm, if_pos (List.mem_cons_of_mem _ hm)]
      · rw [if_neg hm, if_neg]
        intro z
        rcases List.mem_cons.mp z with z | z
        · exact hj z.symm
        · exact hm z
theorem wipe_set {σ : St} {i : Nat} {o : Option V} {vs : List Nat} (h : i ∈ vs) : wipe (σ.set i o) vs = wipe σ vs := by
  apply List.ext_getElem?
  intro j
  rw [wipe_get, wipe_get]
  by_cases hj : j ∈ vs
  · rw [if_pos hj, if_pos hj]
    by_cases hji : i = j
    · subst hji
      by_cases hl : i < σ.length
      · rw [List.getElem?_set_self hl, List.getElem?_eq_getElem hl]
        rfl
      · rw [List.getElem?_eq_none (by rw [List.length_set]; omega), List.getElem?_eq_none (by omega)]
    · rw [List.getElem?_set_ne hji]
  · rw [if_neg hj, if_neg hj, List.getElem?_set_ne (fun (z : i = j) => hj (z ▸ h))]
def gD (K : Kf) (t : Tg) : TG := fun v σ H Q => ∃ P F ρ d ρ', Vw K P F H σ ρ ∧ Da K F v d ∧ asg t d ρ = some ρ' ∧ ∀ σ', Vw K P F H σ' ρ' → (∀ vs, (∀ i ∈ t.slots, i ∈ vs) → wipe σ' vs = wipe σ vs) → Q σ' H
def gDs (K : Kf) (t : Tgs) : TGs := fun xs σ H Q => ∃ P F ρ ds ρ', Vw K P F H σ ρ ∧ Das K F xs ds ∧ asgs t ds ρ = some ρ' ∧ ∀ σ', Vw K P F H σ' ρ' → (∀ vs, (∀ i ∈ t.slots, i ∈ vs) → wipe σ' vs = wipe σ vs) → Q σ' H
section
variable {X : Cx} {a b c e : Expr} {pos p : Pos}
theorem PGsi {es : List Expr} {t t' : TGs} (h : PGs X es t') (f : ∀ v σ H Q, t v σ H Q → t' v σ H Q) : PGs X es t := ⟨fun pins s σ H v u Q I r w => h.run pins s σ H v u Q I r (f _ _ _ _ w)⟩
theorem pgd_name {i : Nat} {x : Str} (hN : X.N.Nodup) (hi : X.N[i]? = some x) (hx : Loc X.env.scope x) (hf : X.fn x = true ∨ X.env.scope.names.lookup x = some .local) : PG X (.Name x pos) (gD X.kf (.nm i)) := by
  refine PGi (pg_name hN hi hx hf) fun v σ H Q h => ?_
  obtain ⟨P, F, ρ, d, ρ', vw, q, e, k⟩ := h
  rw [asg] at e
  cases e
  exact k _ (vw.set q) fun vs hv => wipe_set (hv i (by rw [Tg.slots]; exact List.mem_singleton_self i))
theorem pgds_nil : PGs X [] (gDs X.kf .nil) := by
  refine PGsi pgs_nil fun v σ H Q h => ?_
  obtain ⟨P, F, ρ, d, ρ', vw, q, e, k⟩ := h
  cases q with
  | nil =>
    rw [asgs] at e
    cases e
    exact ⟨rfl, k σ vw fun _ _ => rfl⟩
  | cons _ _ => rw [asgs] at e; cases e
theorem pgds_cons {es : List Expr} {t : Tg} {ts : Tgs} (h1 : PG X e (gD X.kf t)) (h2 : PGs X es (gDs X.kf ts)) (hs : (assignEach (e :: es) X.env).map (·.2) = assign e X.env :: (assignEach es X.env).map (·.2)) : PGs X (e :: es) (gDs X.kf (.cons t ts)) := by
  refine PGsi (pgs_cons h1 h2 hs) fun v σ H Q h => ?_
  obtain ⟨P, F, ρ, d, ρ', vw, q, e, k⟩ := h
  cases q with
  | nil => rw [asgs] at e; cases e
  | cons q1 q2 =>
    rw [asgs] at e
    obtain ⟨ρ1, e1, e⟩ := bind_some_iff e
    refine ⟨_, _, rfl, P, F, ρ, _, ρ1, vw, q1, e1, fun σ1 vw1 w1 => ⟨P, F, ρ1, _, ρ', vw1, q2, e, fun σ2 vw2 w2 => k σ2 vw2 fun vs hv => ?_⟩⟩
    rw [w2 vs fun i hi => hv i (by rw [Tgs.slots]; exact List.mem_append_right _ hi), w1 vs fun i hi => hv i (by rw [Tgs.slots]; exact List.mem_append_left _ hi)]
theorem pgd_tup {es : List Expr} {ts : Tgs} {k : Nat} (hc : X.calm = true) (h : PGs X es (gDs X.kf ts)) (hn : (assignEach es X.env).length = ts.len) (hst : (assignEach es X.env).findIdx? (·.1) = none) : PG X (.Tuple es k pos) (gD X.kf (.tp ts)) := by
  refine PGi (pg_tup hc h hn hst) fun v σ H Q h => ?_
  obtain ⟨P, F, ρ, d, ρ', vw, q, e, k⟩ := h
  rw [asg] at e
  obtain ⟨xs, ex, e⟩ := bind_some_iff e
  rw [tupOf_some ex] at q
  cases q with
  | tup h1 q1 =>
    exact ⟨_, _, rfl, sqT_same vw.sub h1, by rw [q1.length, asgs_len e], P, F, ρ, _, ρ', vw, q1, e, fun σ' vw' w => k σ' vw' fun vs hv => w vs fun i hi => hv i (by rw [Tg.slots]; exact hi)⟩

/-! ### what is walked -/
structure Yl (K : Kf) (F : Hp) (J : It) (ds : List D) : Prop where
  go : ∀ F1 H1, Same F F1 → Same F1 H1 → ∀ i, i < ds.length → J.go i H1
  stop : ∀ F1 H1, Same F F1 → Same F1 H1 → J.stop ds.length H1
  yld : ∀ F1 H1, Same F F1 → Same F1 H1 → ∀ i d x H', ds[i]? = some d → J.yld i H1 x H' → ∃ F', Gr F1 H1 F' H' ∧ Da K F' x d
def iD (K : Kf) (f : En → Option (List D)) : TI := fun σ H R => ∃ P F ρ ds, Vw K P F H σ ρ ∧ f ρ = some ds ∧ ∀ J F' H', Gr F H F' H' → Yl K F' J ds → R J H'
def itemsD : D → Option (List D)
  | .lst xs => some xs
  | .tup xs => some xs
  | .str l => some (l.map fun c => .str [c])
  | _ => none
variable {tg : Expr} {fa fb fc : En → Option D}
theorem yl_list {K : Kf} {F : Hp} {a : Addr} {vs : List V} {ds : List D} (h : F a = some (.lst vs)) (q : Das K F vs ds) : Yl K F (Itl K a) ds where
  go := fun F1 H1 s1 s2 i hi => by
    obtain ⟨v, e, _⟩ := q.get (List.getElem?_eq_getElem hi)
    exact ⟨vs, v, .of (s2 _ _ (s1 _ _ h)), e⟩
  stop := fun F1 H1 s1 s2 => ⟨vs, .of (s2 _ _ (s1 _ _ h)), by rw [q.length]; exact Nat.le_refl _⟩
  yld := fun F1 H1 s1 s2 i d x H' hd y => by
    obtain ⟨e1, e2⟩ := y
    subst e1
    obtain ⟨v, e, qv⟩ := q.get hd
    have := e2 vs (.of (s2 _ _ (s1 _ _ h)))
    rw [e] at this
    cases this
    exact ⟨F1, Gr.refl s2, qv.same s1⟩
theorem yl_tup {K : Kf} {F : Hp} {a : Addr} {vs : List V} {ds : List D} (h : SqT K F a vs) (q : Das K F vs ds) : Yl K F (Itt K a) ds where
  go := fun F1 H1 s1 s2 i hi => by
    obtain ⟨v, e, _⟩ := q.get (List.getElem?_eq_getElem hi)
    exact ⟨vs, v, sqT_same s2 (sqT_same s1 h), e⟩
  stop := fun F1 H1 s1 s2 => ⟨vs, sqT_same s2 (sqT_same s1 h), by rw [q.length]; exact Nat.le_refl _⟩
  yld := fun F1 H1 s1 s2 i d x H' hd y => by
    obtain ⟨e1, e2⟩ := y
    subst e1
    obtain ⟨v, e, qv⟩ := q.get hd
    have := e2 vs (sqT_same s2 (sqT_same s1 h))
    rw [e] at this
    cases this
    exact ⟨F1, Gr.refl s2, qv.same s1⟩
theorem yl_str {K : Kf} {F : Hp} (l : List Nat) : Yl K F (Its (mkS l)) (l.map fun c => D.str [c]) where
  go := fun F1 H1 s1 s2 i hi => by
    rw [List.length_map] at hi
    show i < (mkS l).cps.size
    simpa [mkS] using hi
  stop := fun F1 H1 s1 s2 => by
    show (mkS l).cps.size ≤ _
    simp [mkS]
  yld := fun F1 H1 s1 s2 i d x H' hd y => by
    obtain ⟨e1, c, e2, rfl⟩ := y
    subst e1
    rw [List.getElem?_map] at hd
    obtain ⟨c', ec, rfl⟩ := Option.map_eq_some_iff.mp hd
    have : l[i]? = some c := by simpa [mkS] using e2
    rw [ec] at this
    cases this
    exact ⟨F1, Gr.refl s2, .str [c]⟩
def rngD (lo : Int) (n : Nat) : List D := (List.range n).map fun i => D.int (lo + (i : Nat))
theorem yl_rng {K : Kf} {F : Hp} (lo : Int) (n : Nat) : Yl K F (Itr lo n) (rngD lo n) where
  go := fun F1 H1 s1 s2 i hi => by
    unfold rngD at hi
    rw [List.length_map, List.length_range] at hi
    exact hi
  stop := fun F1 H1 s1 s2 => by
    show n ≤ _
    unfold rngD
    rw [List.length_map, List.length_range]
    exact Nat.le_refl _
  yld := fun F1 H1 s1 s2 i d x H' hd y => by
    obtain ⟨e1, rfl⟩ := y
    subst e1
    unfold rngD at hd
    rw [List.getElem?_map] at hd
    obtain ⟨c', ec, rfl⟩ := Option.map_eq_some_iff.mp hd
    have := List.getElem?_eq_some_iff.mp ec
    obtain ⟨h1, h2⟩ := this
    rw [List.getElem_range] at h2
    subst h2
    exact ⟨F1, Gr.refl s2, .int _⟩
def gitems (f : En → Option D) : En → Option (List D) := fun ρ => (f ρ).bind itemsD
theorem pid_data (ha : PE X e (tD X.kf fa)) : PI X tg e (iD X.kf (gitems fa)) := by
  refine ⟨fun pins s σ H R I h => ?_⟩
  obtain ⟨P, F, ρ, ds, vw, e, k⟩ := h
  obtain ⟨d, ed, e⟩ := bind_some_iff e
  unfold itemsD at e
  split at e
  · cases e
    refine (pi_list ha).run pins s σ H R I ⟨P, F, ρ, _, vw, ed, fun v F1 H1 g1 q1 => ?_⟩
    cases q1 with
    | lst h1 q1 => exact ⟨_, rfl, ⟨_, .of (g1.fh _ _ h1)⟩, k _ F1 H1 g1 (yl_list h1 q1)⟩
  · cases e
    refine (pi_tup ha).run pins s σ H R I ⟨P, F, ρ, _, vw, ed, fun v F1 H1 g1 q1 => ?_⟩
    cases q1 with
    | tup h1 q1 => exact ⟨_, rfl, ⟨_, sqT_same g1.fh h1⟩, k _ F1 H1 g1 (yl_tup h1 q1)⟩
  · cases e
    refine (pi_str ha).run pins s σ H R I ⟨P, F, ρ, _, vw, ed, fun v F1 H1 g1 q1 => ?_⟩
    cases q1
    exact ⟨_, rfl, k _ F1 H1 g1 (yl_str _)⟩
  · cases e
def grng1 (fs : En → Option (List D)) : En → Option (List D) := fun ρ => (fs ρ).bind fun xs => match xs with
  | [.int j] => if -(2 ^ 62) ≤ j ∧ j < 2 ^ 62 then some (rngD 0 j.toNat) else none
  | _ => none
def grng2 (fs : En → Option (List D)) : En → Option (List D) := fun ρ => (fs ρ).bind fun xs => match xs with
  | [.int i, .int j] => if -(2 ^ 62) ≤ i ∧ i < 2 ^ 62 ∧ -(2 ^ 62) ≤ j ∧ j < 2 ^ 62 then some (rngD i (j - i).toNat) else none
  | _ => none
theorem pid_rng1 {fs : En → Option (List D)} (hg : Gl X "range") (hm : X.mg "range" = none) (ha : PA X [a] (tDA X.kf fs)) (hs : starEach [a] X.env = [(false, eval a X.env)]) : PI X tg (.Call (.Name "range" p) [a] [] pos) (iD X.kf (grng1 fs)) := by
  refine PIi (pi_range1 hg hm ha hs) fun σ H R h => ?_
  obtain ⟨P, F, ρ, ds, vw, e, k⟩ := h
  obtain ⟨xs, ex, e⟩ := bind_some_iff e
  split at e
  · split at e
    · rename_i hj
      cases e
      refine ⟨P, F, ρ, _, vw, ex, fun vs F1 H1 g1 q1 => ?_⟩
      obtain ⟨x, rfl, q2⟩ := q1.one
      cases q2
      exact ⟨_, rfl, hj.1, hj.2, k _ F1 H1 g1 (yl_rng _ _)⟩
    · cases e
  · cases e
theorem pid_rng2 {fs : En → Option (List D)} (hg : Gl X "range") (hm : X.mg "range" = none) (ha : PA X [a, b] (tDA X.kf fs)) (hs : starEach [a, b] X.env = [(false, eval a X.env), (false, eval b X.env)]) (hs2 : starEach [b] X.env = [(false, eval b X.env)]) :
    PI X tg (.Call (.Name "range" p) [a, b] [] pos) (iD X.kf (grng2 fs)) := by
  refine PIi (pi_range2 hg hm ha hs hs2) fun σ H R h => ?_
  obtain ⟨P, F, ρ, ds, vw, e, k⟩ := h
  obtain ⟨xs, ex, e⟩ := bind_some_iff e
  split at e
  · split at e
    · rename_i hj
      cases e
      refine ⟨P, F, ρ, _, vw, ex, fun vs F1 H1 g1 q1 => ?_⟩
      obtain ⟨x, y, rfl, q2, q3⟩ := q1.two
      cases q2
      cases q3
      exact ⟨_, _, rfl, hj, k _ F1 H1 g1 (yl_rng _ _)⟩
    · cases e
  · cases e
/-- pairs of two sequences of one kind -/
def zipD (xs ys : List D) : List D := (xs.zip ys).map fun p => .tup [p.1, p.2]
def gzip (fs : En → Option (List D)) : En → Option (List D) := fun ρ => (fs ρ).bind fun xs => match xs with
  | [.tup xs, .tup ys] => some (zipD xs ys)
  | [.lst xs, .lst ys] => some (zipD xs ys)
  | _ => none
theorem zipD_get {xs ys : List D} {i : Nat} {d : D} (h : (zipD xs ys)[i]? = some d) : ∃ x y, xs[i]? = some x ∧ ys[i]? = some y ∧ d = .tup [x, y] := by
  unfold zipD at h
  rw [List.getElem?_map] at h
  obtain ⟨⟨x, y⟩, e, rfl⟩ := Option.map_eq_some_iff.mp h
  obtain ⟨h1, h2⟩ := List.getElem?_zip_eq_some.mp e
  exact ⟨x, y, h1, h2, rfl⟩
theorem zipD_len (xs ys : List D) : (zipD xs ys).length = min xs.length ys.length := by
  unfold zipD
  rw [List.length_map, List.length_zip]
theorem pid_zip {fs : En → Option (List D)} {elts : List Expr} {kk : Nat} {tpos : Pos} (hg : Gl X "zip") (hm : X.mg "zip" = none) (ha : PA X [a, b] (tDA X.kf fs)) (hs : starEach [a, b] X.env = (false, eval a X.env) :: starEach [b] X.env) (hpl : (backTo pos (starEach [b] X.env)).any (·.1) = false) :
    PI X (.Tuple elts kk tpos) (.Call (.Name "zip" p) [a, b] [] pos) (iD X.kf (gzip fs)) := by
  refine PIi (RZ.pi_zipA hg hm ha hs hpl) fun σ H R h => ?_
  obtain ⟨P, F, ρ, ds, vw, e, k⟩ := h
  obtain ⟨xs, ex, e⟩ := bind_some_iff e
  refine ⟨P, F, ρ, xs, vw, ex, fun vs F1 H1 g1 q1 => ?_⟩
  split at e
  · cases e
    obtain ⟨x, y, rfl, q2, q3⟩ := q1.two
    cases q2 with
    | tup h2 q2 =>
      cases q3 with
      | tup h3 q3 =>
        refine ⟨_, _, _, _, rfl, .inr ⟨sqT_same g1.fh h2, sqT_same g1.fh h3, k _ F1 H1 g1 ⟨fun F2 H2 s1 s2 i hi => ?_, fun F2 H2 s1 s2 => ?_, fun F2 H2 s1 s2 i d x H' hd y => ?_⟩⟩⟩
        · rw [zipD_len] at hi
          obtain ⟨v1, e1, _⟩ := q2.get (List.getElem?_eq_getElem (by omega : i < _))
          obtain ⟨v2, e2, _⟩ := q3.get (List.getElem?_eq_getElem (by omega : i < _))
          exact ⟨_, _, v1, v2, sqT_same s2 (sqT_same s1 h2), sqT_same s2 (sqT_same s1 h3), e1, e2⟩
        · refine ⟨_, _, sqT_same s2 (sqT_same s1 h2), sqT_same s2 (sqT_same s1 h3), ?_⟩
          rw [zipD_len, q2.length, q3.length]
          omega
        · obtain ⟨T, x1, x2, rfl, hT, rfl, f1, f2⟩ := y
          obtain ⟨d1, d2, z1, z2, rfl⟩ := zipD_get hd
          obtain ⟨v1, w1, p1⟩ := q2.get z1
          obtain ⟨v2, w2, p2⟩ := q3.get z2
          have := f1 _ (sqT_same s2 (sqT_same s1 h2))
          rw [w1] at this
          cases this
          have := f2 _ (sqT_same s2 (sqT_same s1 h3))
          rw [w2] at this
          cases this
          exact ⟨_, Gr.laid s2 hT, .tup (.of upd_same) (.cons ((p1.same s1).same (Gr.laid s2 hT).ff) (.cons ((p2.same s1).same (Gr.laid s2 hT).ff) .nil))⟩
  · cases e
    obtain ⟨x, y, rfl, q2, q3⟩ := q1.two
    cases q2 with
    | lst h2 q2 =>
      cases q3 with
      | lst h3 q3 =>
        refine ⟨_, _, _, _, rfl, .inl ⟨.of (g1.fh _ _ h2), .of (g1.fh _ _ h3), k _ F1 H1 g1 ⟨fun F2 H2 s1 s2 i hi => ?_, fun F2 H2 s1 s2 => ?_, fun F2 H2 s1 s2 i d x H' hd y => ?_⟩⟩⟩
        · rw [zipD_len] at hi
          obtain ⟨v1, e1, _⟩ := q2.get (List.getElem?_eq_getElem (by omega : i < _))
          obtain ⟨v2, e2, _⟩ := q3.get (List.getElem?_eq_getElem (by omega : i < _))
          exact ⟨_, _, v1, v2, .of (s2 _ _ (s1 _ _ h2)), .of (s2 _ _ (s1 _ _ h3)), e1, e2⟩
        · refine ⟨_, _, .of (s2 _ _ (s1 _ _ h2)), .of (s2 _ _ (s1 _ _ h3)), ?_⟩
          rw [zipD_len, q2.length, q3.length]
          omega
        · obtain ⟨T, x1, x2, rfl, hT, rfl, f1, f2⟩ := y
          obtain ⟨d1, d2, z1, z2, rfl⟩ := zipD_get hd
          obtain ⟨v1, w1, p1⟩ := q2.get z1
          obtain ⟨v2, w2, p2⟩ := q3.get z2
          have := f1 _ (.of (s2 _ _ (s1 _ _ h2)))
          rw [w1] at this
          cases this
          have := f2 _ (.of (s2 _ _ (s1 _ _ h3)))
          rw [w2] at this
          cases this
          exact ⟨_, Gr.laid s2 hT, .tup (.of upd_same) (.cons ((p1.same s1).same (Gr.laid s2 hT).ff) (.cons ((p2.same s1).same (Gr.laid s2 hT).ff) .nil))⟩
  · cases e
/-- enumerate of a list -/
def enumD (xs : List D) : List D := (List.range xs.length).zip xs |>.map fun p => .tup [.int (p.1 : Nat), p.2]
theorem enumD_get {xs : List D} {i : Nat} {d : D} (h : (enumD xs)[i]? = some d) : ∃ x, xs[i]? = some x ∧ d = .tup [.int (i : Nat), x] := by
  unfold enumD at h
  rw [List.getElem?_map] at h
  obtain ⟨⟨x, y⟩, e, rfl⟩ := Option.map_eq_some_iff.mp h
  obtain ⟨h1, h2⟩ := List.getElem?_zip_eq_some.mp e
  obtain ⟨h3, h4⟩ := List.getElem?_eq_some_iff.mp h1
  rw [List.getElem_range] at h4
  subst h4
  exact ⟨y, h2, rfl⟩
theorem enumD_len (xs : List D) : (enumD xs).length = xs.length := by
  unfold enumD
  rw [List.length_map, List.length_zip, List.length_range, Nat.min_self]
def genumL (fs : En → Option (List D)) : En → Option (List D) := fun ρ => (fs ρ).bind fun xs => match xs with
  | [.lst xs] => some (enumD xs)
  | _ => none
theorem pid_enumL {fs : En → Option (List D)} {elts : List Expr} {kk : Nat} {tpos : Pos} (hg : Gl X "enumerate") (hm : X.mg "enumerate" = none) (ha : PA X [a] (tDA X.kf fs)) (hs : starEach [a] X.env = [(false, eval a X.env)]) :
    PI X (.Tuple elts kk tpos) (.Call (.Name "enumerate" p) [a] [] pos) (iD X.kf (genumL fs)) := by
  refine PIi (pi_enum hg hm ha hs) fun σ H R h => ?_
  obtain ⟨P, F, ρ, ds, vw, e, k⟩ := h
  obtain ⟨xs, ex, e⟩ := bind_some_iff e
  refine ⟨P, F, ρ, xs, vw, ex, fun vs F1 H1 g1 q1 => ?_⟩
  split at e
  · cases e
    obtain ⟨x, rfl, q2⟩ := q1.one
    cases q2 with
    | lst h2 q2 =>
      refine ⟨_, _, rfl, .of (g1.fh _ _ h2), k _ F1 H1 g1 ⟨fun F2 H2 s1 s2 i hi => ?_, fun F2 H2 s1 s2 => ?_, fun F2 H2 s1 s2 i d x H' hd y => ?_⟩⟩
      · rw [enumD_len] at hi
        obtain ⟨v1, e1, _⟩ := q2.get (List.getElem?_eq_getElem hi)
        exact ⟨_, v1, .of (s2 _ _ (s1 _ _ h2)), e1⟩
      · exact ⟨_, .of (s2 _ _ (s1 _ _ h2)), by rw [enumD_len, q2.length]; exact Nat.le_refl _⟩
      · obtain ⟨T, x1, rfl, hT, rfl, f1⟩ := y
        obtain ⟨d1, z1, rfl⟩ := enumD_get hd
        obtain ⟨v1, w1, p1⟩ := q2.get z1
        have := f1 _ (.of (s2 _ _ (s1 _ _ h2)))
        rw [w1] at this
        cases this
        exact ⟨_, Gr.laid s2 hT, .tup (.of upd_same) (.cons (.int _) (.cons ((p1.same s1).same (Gr.laid s2 hT).ff) .nil))⟩
  · cases e
end
end DL
end
section
namespace DL
open PySem PySem.Spec L2
open PyProof.Rows hiding St

/-! ### comprehensions -/
def wipeR (ρ : En) : List Nat → En
  | [] => ρ
  | v :: vs => (wipeR ρ vs).set v .no
theorem Vw.wipe {K : Kf} {P : Addr → Prop} {F H : Hp} {σ : St} {ρ : En} (h : Vw K P F H σ ρ) : ∀ vs : List Nat, Vw K P F H (wipe σ vs) (wipeR ρ vs)
  | [] => h
  | v :: vs => (Vw.wipe h vs).clear
theorem wipe_wipe (σ : St) (vs : List Nat) : L2.wipe (L2.wipe σ vs) vs = L2.wipe σ vs := by
  apply List.ext_getElem?
  intro j
  rw [wipe_get, wipe_get]
  by_cases hj : j ∈ vs
  · rw [if_pos hj, if_pos hj]
    cases σ[j]? <;> rfl
  · rw [if_neg hj, if_neg hj]
def compL (ρ : En) (t : Tg) (fc : En → Option Bool) (fe : En → Option D) : List D → Option (List D)
  | [] => some []
  | d :: ds => (asg t d ρ).bind fun ρ' => (fc ρ').bind fun b => if b then (fe ρ').bind fun y => (compL ρ t fc fe ds).bind fun ys => some (y :: ys) else compL ρ t fc fe ds
def gcomp (vs : List Nat) (fi : En → Option (List D)) (t : Tg) (fc : En → Option Bool) (fe : En → Option D) : En → Option (List D) := fun ρ => (fi ρ).bind fun ds => if ds.length ≤ sizeLine then compL (wipeR ρ vs) t fc fe ds else none
theorem compL_len {ρ : En} {t : Tg} {fc : En → Option Bool} {fe : En → Option D} : ∀ {ds ys : List D}, compL ρ t fc fe ds = some ys → ys.length ≤ ds.length
  | [], _, h => by cases h; exact Nat.le_refl _
  | d :: ds, ys, h => by
    obtain ⟨ρ', _, h⟩ := bind_some_iff h
    obtain ⟨b, _, h⟩ := bind_some_iff h
    cases b with
    | true =>
      obtain ⟨y, _, h⟩ := bind_some_iff (show _ = some ys from h)
      obtain ⟨zs, ez, h⟩ := bind_some_iff h
      cases h
      have := compL_len ez
      rw [List.length_cons, List.length_cons]
      omega
    | false =>
      have := compL_len (show compL ρ t fc fe ds = some ys from h)
      rw [List.length_cons]
      omega
section
variable {X : Cx} {pos : Pos}
theorem pts_d {c : Expr} {f : En → Option Bool} (h : PT X c (tDT X.kf f)) : PTs X [c] (tDT X.kf f) := pts_one h
def gyes : En → Option Bool := fun _ => some true
theorem pts_yes : PTs X [] (tDT X.kf gyes) := ⟨fun pins s σ H Q I h => (pts_nil (X := X)).run pins s σ H Q I (by
  obtain ⟨P, F, ρ, b, vw, e, k⟩ := h
  cases e
  exact k F H (Gr.refl vw.sub))⟩
theorem tLc_d {K : Kf} {fi : En → Option (List D)} {t : Tg} {fc : En → Option Bool} {fe : En → Option D} {vs : List Nat} (hsl : ∀ i ∈ t.slots, i ∈ vs) {σ : St} {H : Hp} {Q : VK} (h : tDL K (gcomp vs fi t fc fe) σ H Q) :
    tLc (iD K fi) (gD K t) (tDT K fc) (tD K fe) vs σ H Q := by
  obtain ⟨P, F, ρ, ys, vw, e, k⟩ := h
  obtain ⟨ds, ed, e⟩ := bind_some_iff e
  split at e
  · rename_i hsz
    refine ⟨P, F, ρ, ds, vw, ed, fun J F1 H1 g1 yl Dd hD => ?_⟩
    have fD : F1 Dd = none := g1.fh.free hD
    refine ⟨fun i m Hc => i + m = ds.length ∧ ∃ Fc acc accd rest, Same H1 Hc ∧ Same F1 Fc ∧ Same Fc Hc ∧ (∀ a o, Fc a = some o → F1 a = some o ∨ H1 a = none) ∧ Fc Dd = none ∧ Hc Dd = some (.lst acc) ∧ Das K Fc acc accd ∧ accd.length ≤ i ∧ compL (wipeR ρ vs) t fc fe (ds.drop i) = some rest ∧ ys = accd ++ rest,
      ⟨ds.length, Nat.zero_add _, F1, [], [], ys, same_upd hD, Same.refl _, (Gr.side g1.fh hD).fh, fun _ _ z => .inl z, fD, upd_same, .nil, Nat.zero_le _, e, rfl⟩, fun i m Hc hW => ?_⟩
    obtain ⟨em, Fc, acc, accd, rest, s1, s2, s3, nw, fd, hd, qa, hla, ec, ey⟩ := hW
    by_cases hi : i < ds.length
    · refine .inr ⟨yl.go Fc Hc s2 s3 i hi, fun H' => ∃ Fc acc accd rest, Same H1 H' ∧ Same F1 Fc ∧ Same Fc H' ∧ (∀ a o, Fc a = some o → F1 a = some o ∨ H1 a = none) ∧ Fc Dd = none ∧ H' Dd = some (.lst acc) ∧ Das K Fc acc accd ∧ accd.length ≤ i + 1 ∧ compL (wipeR ρ vs) t fc fe (ds.drop (i + 1)) = some rest ∧ ys = accd ++ rest,
        fun H' hN => ?_, fun x H' hy => ?_⟩
      · obtain ⟨Fc', z⟩ := hN
        exact ⟨m - 1, by omega, by omega, Fc', z⟩
      · have hdi : ds[i]? = some ds[i] := List.getElem?_eq_getElem hi
        obtain ⟨F2, g2, q2⟩ := yl.yld Fc Hc s2 s3 i _ x H' hdi hy
        rw [List.drop_eq_getElem_cons hi] at ec
        obtain ⟨ρ', eρ, ec⟩ := bind_some_iff ec
        obtain ⟨b, eb, ec⟩ := bind_some_iff ec
        have gc : Gr F1 H1 Fc Hc := ⟨s1, s2, s3, nw⟩
        have gD2 : Gr F1 H1 F2 H' := gc.trans g2
        have vw2 : Vw K P F2 H' (wipe σ vs) (wipeR ρ vs) := ((vw.grow g1).grow gD2).wipe vs
        have nD : ∀ {Fx Hx : Hp}, Gr Fc Hc Fx Hx → Fx Dd = none ∧ Hx Dd = some (.lst acc) := fun {Fx Hx} gx => by
          refine ⟨?_, gx.hh _ _ hd⟩
          cases z : Fx Dd with
          | none => rfl
          | some o =>
            rcases gx.new _ _ z with w | w
            · rw [fd] at w; cases w
            · rw [hd] at w; cases w
        refine ⟨P, F2, wipeR ρ vs, ds[i], ρ', vw2, q2, eρ, fun σ' vw3 w3 => ⟨(w3 vs hsl).trans (wipe_wipe σ vs), ?_⟩⟩
        refine ⟨P, F2, ρ', b, vw3, eb, fun F3 H3 g3 => ?_⟩
        cases b with
        | true =>
          obtain ⟨y, eye, ec⟩ := bind_some_iff (show _ = some rest from ec)
          obtain ⟨zs, ez, ec⟩ := bind_some_iff ec
          cases ec
          refine ⟨P, F3, ρ', y, vw3.grow g3, eye, fun v F4 H4 g4 q4 => ?_⟩
          have g24 := (g2.trans g3).trans g4
          obtain ⟨n1, n2⟩ := nD g24
          have g14 := gc.trans g24
          have la : acc.length ≤ i := by rw [qa.length]; exact hla
          refine ⟨acc, n2, by omega, F4, acc ++ [v], accd ++ [y], zs, fun b' o z => ?_, g14.ff, fun b' o z => ?_, g14.new, n1, upd_same, (qa.same g24.ff).append (.cons q4 .nil), by rw [List.length_append]; simp; omega, ez, by rw [ey, List.append_assoc]; rfl⟩
          · rw [upd_ne (ne_of_none z hD)]
            exact g14.hh _ _ z
          · rw [upd_ne (ne_of_none z n1)]
            exact g14.fh _ _ z
        | false =>
          have g23 := g2.trans g3
          obtain ⟨n1, n2⟩ := nD g23
          have g13 := gc.trans g23
          exact ⟨F3, acc, accd, rest, g13.hh, g13.ff, g13.fh, g13.new, n1, n2, qa.same g23.ff, by omega, ec, ey⟩
    · have ei : i = ds.length := by omega
      subst ei
      refine .inl ⟨yl.stop Fc Hc s2 s3, ?_⟩
      rw [List.drop_length] at ec
      cases ec
      rw [List.append_nil] at ey
      subst ey
      exact k Dd acc Fc Hc (g1.trans ⟨s1, s2, s3, nw⟩) (g1.hh.free hD) fd hd qa
  · cases e
theorem pdl_comp {elt tg iter : Expr} {ifs : List Expr} {scope : Scope} {own : List (Str × Nat)} {fi : En → Option (List D)} {t : Tg} {fc : En → Option Bool} {fe : En → Option D} (hsl : ∀ i ∈ t.slots, i ∈ own.map (·.2)) (hc : X.calm = true) (hN : X.N.Nodup) (hi : PI X tg iter (iD X.kf fi)) (ok : BlkOk X.N X.env.scope scope own)
    (hg : ∀ (s : Shared) (H : Hp) (C : Addr) (cl : List (Str × Addr)) (fp : List Addr), PG (X.blk s H scope (compEnvC scope cl C X.env) fp) tg (gD X.kf t)) (ht : ∀ (s : Shared) (H : Hp) (C : Addr) (cl : List (Str × Addr)) (fp : List Addr), PTs (X.blk s H scope (compEnvC scope cl C X.env) fp) ifs (tDT X.kf fc))
    (he : ∀ (s : Shared) (H : Hp) (C : Addr) (cl : List (Str × Addr)) (fp : List Addr), PE (X.blk s H scope (compEnvC scope cl C X.env) fp) elt (tD X.kf fe)) (hs : ∀ x, foldedSetIterable iter X.env x = pure x) :
    PE X (.ListComp elt [⟨tg, iter, ifs, 0⟩] scope pos) (tDL X.kf (gcomp (own.map (·.2)) fi t fc fe)) := PEi (pe_lc hc hN hi ok hg ht he hs) fun _ _ _ h => tLc_d hsl h
end

/-! ### statements -/
inductive Res where
  | nx (ρ : En)
  | rt (d : D)
/-- the entry of a def: its heap, the frozen part, what is lent -/
structure Wd where
  H0 : Hp
  F0 : Hp
  B : Addr → Prop
structure Ok0 (W : Wd) (F H : Hp) : Prop where
  same : ∀ b o, ¬ W.B b → W.H0 b = some o → H b = some o
  live : ∀ b, W.H0 b ≠ none → H b ≠ none
  up : Same W.F0 F
  new : ∀ a o, F a = some o → W.F0 a = some o ∨ W.H0 a = none
abbrev OwnP (W : Wd) : Addr → Prop := fun a => W.H0 a = none
structure Sg (K : Kf) (W : Wd) (F H : Hp) (σ : St) (ρ : En) : Prop where
  ok : Ok0 W F H
  vw : Vw K (OwnP W) F H σ ρ
structure Out (K : Kf) (W : Wd) (F H : Hp) (v : V) (d : D) : Prop where
  ok : Ok0 W F H
  sub : Same F H
  da : Da K F v d
def Fin (K : Kf) (W : Wd) (E : Ends) : Res → Prop
  | .nx ρ => ∀ σ F H, Sg K W F H σ ρ → E.nx σ H
  | .rt d => ∀ v F H, Out K W F H v d → E.rt v H
def sD (K : Kf) (g : En → Option Res) : TS := fun E σ H => ∃ W F ρ r, Sg K W F H σ ρ ∧ g ρ = some r ∧ Fin K W E r
theorem Ok0.grow {W : Wd} {F H F' H' : Hp} (h : Ok0 W F H) (g : Gr F H F' H') : Ok0 W F' H' := by
  refine ⟨fun b o hb e => g.hh _ _ (h.same b o hb e), fun b hb z => h.live b hb (g.hh.free z), h.up.trans g.ff, fun a o e => ?_⟩
  rcases g.new a o e with z | z
  · exact h.new a o z
  · cases q : W.H0 a with
    | none => exact .inr rfl
    | some u => exact absurd z (h.live a (by rw [q]; exact fun w => nomatch w))
theorem Sg.grow {K : Kf} {W : Wd} {F H F' H' : Hp} {σ : St} {ρ : En} (h : Sg K W F H σ ρ) (g : Gr F H F' H') : Sg K W F' H' σ ρ := ⟨h.ok.grow g, h.vw.grow g⟩
/-- an own list is changed -/
theorem Sg.mut {K : Kf} {W : Wd} {F H : Hp} {σ : St} {ρ : En} {i : Nat} {xs ys : List D} {a : Addr} {vs : List V} (h : Sg K W F H σ ρ) (e : ρ[i]? = some (.l xs)) (es : σ[i]? = some (some (.ref a))) (q : Das K F vs ys) : Sg K W F (upd H a (.lst vs)) σ (ρ.set i (.l ys)) := by
  obtain ⟨b, ws, e1, e2, e3, e4, e5⟩ := h.vw.getL e
  rw [es] at e1
  cases e1
  refine ⟨⟨fun b o hb z => ?_, fun b hb => ?_, h.ok.up, h.ok.new⟩, h.vw.mut e es q⟩
  · have : b ≠ a := fun w => by
      have e4' : W.H0 a = none := e4
      rw [w, e4'] at z
      cases z
    rw [upd_ne this]
    exact h.ok.same b o hb z
  · by_cases w : b = a
    · subst w
      rw [upd_same]
      exact fun z => nomatch z
    · rw [upd_ne w]
      exact h.ok.live b hb
/-- an own list made in the def is frozen -/
theorem Sg.frz {K : Kf} {W : Wd} {F H : Hp} {σ : St} {ρ : En} {i : Nat} {xs : List D} (h : Sg K W F H σ ρ) (e : ρ[i]? = some (.l xs)) : ∃ F', Sg K W F' H σ (ρ.set i (.d (.lst xs))) := by
  obtain ⟨a, vs, e1, e2, e3, e4⟩ := h.vw.frz e
  refine ⟨_, ⟨h.ok.same, h.ok.live, h.ok.up.trans (same_upd e2), fun b o z => ?_⟩, e4⟩
  by_cases w : b = a
  · rw [w]
    exact .inr e3
  · rw [upd_ne w] at z
    exact h.ok.new b o z
/-- a slot is given a new own list -/
theorem Sg.setNew {K : Kf} {W : Wd} {F H F' H' : Hp} {σ : St} {ρ : En} {i : Nat} {xs : List D} {a : Addr} {vs : List V} (h : Sg K W F H σ ρ) (g : Gr F H F' H') (hn : H a = none) (e : H' a = some (.lst vs)) (hf : F' a = none) (q : Das K F' vs xs) : Sg K W F' H' (σ.set i (some (.ref a))) (ρ.set i (.l xs)) := by
  refine ⟨h.ok.grow g, h.vw.setNew g hn e hf ?_ q⟩
  cases z : W.H0 a with
  | none => exact z
  | some u => exact absurd hn (h.ok.live a (by rw [z]; exact fun w => nomatch w))

section
variable {X : Cx} {pos : Pos} {st : Stmt} {rest : List Stmt} {e : Expr} {fe : En → Option D}
def gseq (g gs : En → Option Res) : En → Option Res := fun ρ => (g ρ).bind fun r => match r with
  | .nx ρ' => gs ρ'
  | .rt d => some (.rt d)
def gskip : En → Option Res := fun ρ => some (.nx ρ)
theorem psd_nil : PSs X [] (sD X.kf gskip) := PSsi pss_nil fun E σ H h => by
  obtain ⟨W, F, ρ, r, sg, e, k⟩ := h
  cases e
  exact k σ F H sg
theorem psd_cons {g gs : En → Option Res} (h1 : PS X st (sD X.kf g)) (h2 : PSs X rest (sD X.kf gs)) : PSs X (st :: rest) (sD X.kf (gseq g gs)) := PSsi (pss_cons h1 h2) fun E σ H h => by
  obtain ⟨W, F, ρ, r, sg, e, k⟩ := h
  obtain ⟨r1, e1, e⟩ := bind_some_iff e
  refine ⟨W, F, ρ, r1, sg, e1, ?_⟩
  cases r1 with
  | nx ρ' => exact fun σ' F' H' sg' => ⟨W, F', ρ', r, sg', e, k⟩
  | rt d =>
    cases e
    exact k
/-- nothing is run: what is known of a slot changes -/
def gfrz (i : Nat) : En → Option En := fun ρ => match ρ[i]? with | some (.l xs) => some (ρ.set i (.d (.lst xs))) | _ => none
theorem psd_frz {i : Nat} {gs : En → Option Res} (h : PSs X rest (sD X.kf gs)) : PSs X rest (sD X.kf (fun ρ => (gfrz i ρ).bind gs)) := PSsi h fun E σ H h => by
  obtain ⟨W, F, ρ, r, sg, e, k⟩ := h
  obtain ⟨ρ', e1, e⟩ := bind_some_iff e
  unfold gfrz at e1
  split at e1
  · cases e1
    obtain ⟨F', sg'⟩ := sg.frz (by assumption)
    exact ⟨W, F', _, r, sg', e, k⟩
  · cases e1
def gret (f : En → Option D) : En → Option Res := fun ρ => (f ρ).map .rt
theorem psd_ret (he : PE X e (tD X.kf fe)) : PS X (.Return (some e) pos) (sD X.kf (gret fe)) := PSi (ps_ret he) fun E σ H h => by
  obtain ⟨W, F, ρ, r, sg, e, k⟩ := h
  obtain ⟨d, ed, rfl⟩ := Option.map_eq_some_iff.mp e
  exact ⟨_, F, ρ, d, sg.vw, ed, fun v F' H' g q => k v F' H' ⟨sg.ok.grow g, g.fh, q⟩⟩
def gretN : En → Option Res := fun _ => some (.rt .non)
theorem psd_retN : PS X (.Return none pos) (sD X.kf gretN) := PSi ps_retN fun E σ H h => by
  obtain ⟨W, F, ρ, r, sg, e, k⟩ := h
  cases e
  exact k .non F H ⟨sg.ok, sg.vw.sub, .non⟩
def gitS (f : En → Option Bool) (ga gb : En → Option Res) : En → Option Res := fun ρ => (f ρ).bind fun b => if b then ga ρ else gb ρ
theorem psd_if {c : Expr} {sa sb : List Stmt} {f : En → Option Bool} {ga gb : En → Option Res} (hc : PT X c (tDT X.kf f)) (ha : PSs X sa (sD X.kf ga)) (hb : PSs X sb (sD X.kf gb)) : PS X (.If c sa sb pos) (sD X.kf (gitS f ga gb)) := PSi (ps_if hc ha hb) fun E σ H h => by
  obtain ⟨W, F, ρ, r, sg, e, k⟩ := h
  obtain ⟨b, eb, e⟩ := bind_some_iff e
  refine ⟨_, F, ρ, b, sg.vw, eb, fun F' H' g => ?_⟩
  cases b with
  | true => exact ⟨W, F', ρ, r, sg.grow g, e, k⟩
  | false => exact ⟨W, F', ρ, r, sg.grow g, e, k⟩
/-- target = e -/
def gasg (t : Tg) (f : En → Option D) : En → Option Res := fun ρ => (f ρ).bind fun d => (asg t d ρ).map .nx
theorem psd_asg {tg : Expr} {t : Tg} (he : PE X e (tD X.kf fe)) (hg : PG X tg (gD X.kf t)) (hs : swapsWithSole [tg] e pos.line X.env = pure false) (hw : swappedStores [tg] e X.env = pure none) (h1 : (assignEach [tg] X.env).map (·.2) = [assign tg X.env]) :
    PS X (.Assign [tg] e pos) (sD X.kf (gasg t fe)) := PSi (ps_asg he hg hs hw h1) fun E σ H h => by
  obtain ⟨W, F, ρ, r, sg, e, k⟩ := h
  obtain ⟨d, ed, e⟩ := bind_some_iff e
  obtain ⟨ρ', eρ, rfl⟩ := Option.map_eq_some_iff.mp e
  exact ⟨_, F, ρ, d, sg.vw, ed, fun v F' H' g q => ⟨_, F', ρ, d, ρ', sg.vw.grow g, q, eρ, fun σ' vw' _ => k σ' F' H' ⟨sg.ok.grow g, vw'⟩⟩⟩
/-- name = a new list, the def's own -/
def gsetL (i : Nat) (f : En → Option (List D)) : En → Option Res := fun ρ => (f ρ).map fun xs => .nx (ρ.set i (.l xs))
theorem psd_setL {i : Nat} {x : Str} {pos' : Pos} {fl : En → Option (List D)} (hN : X.N.Nodup) (hi : X.N[i]? = some x) (hx : Loc X.env.scope x) (he : PE X e (tDL X.kf fl)) (hs : swapsWith e (some (.Name x pos')) pos.line X.env = pure false) (hf : X.fn x = true ∨ X.env.scope.names.lookup x = some .local) :
    PS X (.Assign [.Name x pos'] e pos) (sD X.kf (gsetL i fl)) := PSi (ps_set hN hi hx he hs hf) fun E σ H h => by
  obtain ⟨W, F, ρ, r, sg, e, k⟩ := h
  obtain ⟨ys, ey, rfl⟩ := Option.map_eq_some_iff.mp e
  exact ⟨_, F, ρ, ys, sg.vw, ey, fun a vs F' H' g hn hf' el q => k _ F' H' (sg.setNew g hn el hf' q)⟩
/-- name = [.. for ..] -/
theorem psd_setC {i : Nat} {y : Str} {py : Pos} {elt tg iter : Expr} {ifs : List Expr} {scope : Scope} {own : List (Str × Nat)} {spos : Pos} {fi : En → Option (List D)} {t : Tg} {fc : En → Option Bool} {fe : En → Option D} (hsl : ∀ i ∈ t.slots, i ∈ own.map (·.2)) (hc : X.calm = true) (hN : X.N.Nodup) (hy : X.N[i]? = some y) (hyl : X.env.scope.names.lookup y = some .local)
    (hsw : swapsWith (.ListComp elt [⟨tg, iter, ifs, 0⟩] scope pos) (some (.Name y py)) spos.line X.env = pure true) (hi : PI X tg iter (iD X.kf fi)) (ok : BlkOk X.N X.env.scope scope own)
    (hg : ∀ (s : Shared) (H : Hp) (C : Addr) (cl : List (Str × Addr)) (fp : List Addr), PG (X.blk s H scope (compEnvC scope cl C X.env) fp) tg (gD X.kf t)) (ht : ∀ (s : Shared) (H : Hp) (C : Addr) (cl : List (Str × Addr)) (fp : List Addr), PTs (X.blk s H scope (compEnvC scope cl C X.env) fp) ifs (tDT X.kf fc))
    (he : ∀ (s : Shared) (H : Hp) (C : Addr) (cl : List (Str × Addr)) (fp : List Addr), PE (X.blk s H scope (compEnvC scope cl C X.env) fp) elt (tD X.kf fe)) (hs : ∀ x, foldedSetIterable iter X.env x = pure x) :
    PS X (.Assign [.Name y py] (.ListComp elt [⟨tg, iter, ifs, 0⟩] scope pos) spos) (sD X.kf (gsetL i (gcomp (own.map (·.2)) fi t fc fe))) := PSi (ps_setLc hc hN hy hyl hsw hi ok hg ht he hs) fun E σ H h => by
  obtain ⟨W, F, ρ, r, sg, e, k⟩ := h
  obtain ⟨ys, ey, rfl⟩ := Option.map_eq_some_iff.mp e
  exact tLc_d hsl ⟨_, F, ρ, ys, sg.vw, ey, fun a vs F' H' g hn hf' el q => k _ F' H' (sg.setNew g hn el hf' q)⟩
def gsetC (i : Nat) (f : En → Option (List D)) : En → Option Res := fun ρ => (f ρ).map fun xs => .nx (ρ.set i (.d (.lst xs)))
theorem psd_setCd {i : Nat} {y : Str} {py : Pos} {elt tg iter : Expr} {ifs : List Expr} {scope : Scope} {own : List (Str × Nat)} {spos : Pos} {fi : En → Option (List D)} {t : Tg} {fc : En → Option Bool} {fe : En → Option D} (hsl : ∀ i ∈ t.slots, i ∈ own.map (·.2)) (hc : X.calm = true) (hN : X.N.Nodup) (hy : X.N[i]? = some y) (hyl : X.env.scope.names.lookup y = some .local)
    (hsw : swapsWith (.ListComp elt [⟨tg, iter, ifs, 0⟩] scope pos) (some (.Name y py)) spos.line X.env = pure true) (hi : PI X tg iter (iD X.kf fi)) (ok : BlkOk X.N X.env.scope scope own)
    (hg : ∀ (s : Shared) (H : Hp) (C : Addr) (cl : List (Str × Addr)) (fp : List Addr), PG (X.blk s H scope (compEnvC scope cl C X.env) fp) tg (gD X.kf t)) (ht : ∀ (s : Shared) (H : Hp) (C : Addr) (cl : List (Str × Addr)) (fp : List Addr), PTs (X.blk s H scope (compEnvC scope cl C X.env) fp) ifs (tDT X.kf fc))
    (he : ∀ (s : Shared) (H : Hp) (C : Addr) (cl : List (Str × Addr)) (fp : List Addr), PE (X.blk s H scope (compEnvC scope cl C X.env) fp) elt (tD X.kf fe)) (hs : ∀ x, foldedSetIterable iter X.env x = pure x) :
    PS X (.Assign [.Name y py] (.ListComp elt [⟨tg, iter, ifs, 0⟩] scope pos) spos) (sD X.kf (gsetC i (gcomp (own.map (·.2)) fi t fc fe))) := PSi (ps_setLc hc hN hy hyl hsw hi ok hg ht he hs) fun E σ H h => by
  obtain ⟨W, F, ρ, r, sg, e, k⟩ := h
  obtain ⟨ys, ey, rfl⟩ := Option.map_eq_some_iff.mp e
  refine tLc_d hsl ⟨_, F, ρ, ys, sg.vw, ey, fun a vs F' H' g hn hf' el q => ?_⟩
  have g2 := g.freeze hn hf' el
  exact k _ _ H' ⟨sg.ok.grow g2, (sg.vw.grow g2).set (.lst upd_same (q.same (same_upd hf')))⟩
/-- a, b = x, y -/
def gpar (i j : Nat) (fs : En → Option (List D)) : En → Option Res := fun ρ => (fs ρ).bind fun xs => match xs with
  | [x, y] => some (.nx ((ρ.set i (.d x)).set j (.d y)))
  | _ => none
theorem psd_par {i j : Nat} {x y : Str} {a b : Expr} {fs : En → Option (List D)} {px py pt : Pos} {kt k2 : Nat} {pt2 : Pos} (hc : X.calm = true) (hN : X.N.Nodup) (hi : X.N[i]? = some x) (hj : X.N[j]? = some y) (hij : i ≠ j)
    (hx : X.env.scope.names.lookup x = some .local) (hy : X.env.scope.names.lookup y = some .local) (ha : PA X [a, b] (tDA X.kf fs))
    (hw : swappedStores [.Tuple [.Name x px, .Name y py] kt pt] (.Tuple [a, b] k2 pt2) X.env = pure (some [x, y]))
    (hs : swapsWithSole [.Tuple [.Name x px, .Name y py] kt pt] (.Tuple [a, b] k2 pt2) pos.line X.env = pure false) :
    PS X (.Assign [.Tuple [.Name x px, .Name y py] kt pt] (.Tuple [a, b] k2 pt2) pos) (sD X.kf (gpar i j fs)) := PSi (ps_par hc hN hi hj hij hx hy ha hw hs) fun E σ H h => by
  obtain ⟨W, F, ρ, r, sg, e, k⟩ := h
  obtain ⟨xs, ex, e⟩ := bind_some_iff e
  split at e
  · cases e
    refine ⟨_, F, ρ, _, sg.vw, ex, fun vs F' H' g q => ?_⟩
    obtain ⟨v, w, rfl, q1, q2⟩ := q.two
    exact ⟨v, w, rfl, k _ F' H' ⟨sg.ok.grow g, ((sg.vw.grow g).set q1).set q2⟩⟩
  · cases e
/-- x.append(e), x.extend(e) of an own list -/
def gapp (i : Nat) (f : En → Option D) : En → Option Res := fun ρ => match ρ[i]? with
  | some (.l xs) => (f ρ).bind fun d => if xs.length < sizeLine then some (.nx (ρ.set i (.l (xs ++ [d])))) else none
  | _ => none
def gext (i : Nat) (f : En → Option (List D)) : En → Option Res := fun ρ => match ρ[i]? with
  | some (.l xs) => (f ρ).bind fun ds => if xs.length + ds.length ≤ sizeLine then some (.nx (ρ.set i (.l (xs ++ ds)))) else none
  | _ => none
theorem psd_app {i : Nat} {x : Str} {p ap cp : Pos} (hN : X.N[i]? = some x) (hv : Vis X.env.scope x) (hd : (x == ("__debug__" : Str)) = false) (hcd : (x == ("__classdict__" : Str)) = false) (he : PE X e (tD X.kf fe)) (hst : starEach [e] X.env = [(false, eval e X.env)]) (hline : (ap.endLine == cp.line) = true) :
    PS X (.Expr (.Call (.Attribute (.Name x p) "append" ap) [e] [] cp) pos) (sD X.kf (gapp i fe)) := by
  refine PSi (ps_expr (pe_bm PySem.F.plainAttrs_list PySem.F.slot_list_append PySem.F.type_list_append mt_append (pe_var (i := i) hN hv hd hcd) (pa_cons he pa_nil hst) rfl (by rw [hst]; rfl) hline hst rfl) rfl) fun E σ H h => ?_
  obtain ⟨W, F, ρ, r, sg, e, k⟩ := h
  unfold gapp at e
  split at e
  · rename_i xs exs
    obtain ⟨d, ed, e⟩ := bind_some_iff e
    split at e
    · rename_i hsz
      cases e
      obtain ⟨a, vs, es, e1, e2, e3, e4⟩ := sg.vw.getL exs
      refine ⟨.ref a, es, .inl ⟨rfl, vs, .of e1⟩, _, F, ρ, d, sg.vw, ed, fun v F' H' g q => ?_⟩
      have sg' := sg.grow g
      have q4 := (e4.same g.ff).append (.cons q .nil)
      exact ⟨a, vs, v, rfl, rfl, g.hh _ _ e1, by rw [e4.length]; exact hsz, k σ F' _ (sg'.mut exs es q4)⟩
    · cases e
  · cases e
theorem psd_ext {i : Nat} {x : Str} {p ap cp : Pos} {fl : En → Option (List D)} (hN : X.N[i]? = some x) (hv : Vis X.env.scope x) (hd : (x == ("__debug__" : Str)) = false) (hcd : (x == ("__classdict__" : Str)) = false) (he : PE X e (tDL X.kf fl)) (hst : starEach [e] X.env = [(false, eval e X.env)]) (hline : (ap.endLine == cp.line) = true) :
    PS X (.Expr (.Call (.Attribute (.Name x p) "extend" ap) [e] [] cp) pos) (sD X.kf (gext i fl)) := by
  refine PSi (ps_expr (pe_bm PySem.F.plainAttrs_list PySem.F.slot_list_extend PySem.F.type_list_extend mt_extend (pe_var (i := i) hN hv hd hcd) (pa_cons he pa_nil hst) rfl (by rw [hst]; rfl) hline hst rfl) rfl) fun E σ H h => ?_
  obtain ⟨W, F, ρ, r, sg, e, k⟩ := h
  unfold gext at e
  split at e
  · rename_i xs exs
    obtain ⟨d, ed, e⟩ := bind_some_iff e
    split at e
    · rename_i hsz
      cases e
      obtain ⟨a, vs, es, e1, e2, e3, e4⟩ := sg.vw.getL exs
      refine ⟨.ref a, es, .inl ⟨rfl, vs, .of e1⟩, _, F, ρ, d, sg.vw, ed, fun b ws F' H' g hn hf' el q => ?_⟩
      have sg' := sg.grow g
      have q4 := (e4.same g.ff).append q
      exact ⟨a, b, vs, ws, rfl, rfl, g.hh _ _ e1, el, by rw [e4.length, q.length]; exact hsz, k σ F' _ (sg'.mut exs es q4)⟩
    · cases e
  · cases e
/-- for t in items: body -/
def forL (t : Tg) (gb : En → Option Res) : List D → En → Option Res
  | [], ρ => some (.nx ρ)
  | d :: ds, ρ => (asg t d ρ).bind fun ρ1 => (gb ρ1).bind fun r => match r with
    | .nx ρ2 => forL t gb ds ρ2
    | .rt x => some (.rt x)
def gfor (t : Tg) (fi : En → Option (List D)) (gb : En → Option Res) : En → Option Res := fun ρ => (fi ρ).bind fun ds => forL t gb ds ρ
theorem tFor_d {K : Kf} {t : Tg} {fi : En → Option (List D)} {gb : En → Option Res} {E : Ends} {σ : St} {H : Hp} (h : sD K (gfor t fi gb) E σ H) : tFor (iD K fi) (gD K t) (sD K gb) E σ H := by
  obtain ⟨W, F, ρ, r, sg, e, k⟩ := h
  obtain ⟨ds, ed, e⟩ := bind_some_iff e
  refine ⟨_, F, ρ, ds, sg.vw, ed, fun J F1 H1 g1 yl => ?_⟩
  refine ⟨fun i m σ' H' => i + m = ds.length ∧ ∃ F' ρ', Same F1 F' ∧ Sg K W F' H' σ' ρ' ∧ forL t gb (ds.drop i) ρ' = some r, ⟨ds.length, Nat.zero_add _, F1, ρ, Same.refl _, sg.grow g1, e⟩, fun i m σ2 H2 hW => ?_⟩
  obtain ⟨em, F2, ρ2, s2, sg2, e2⟩ := hW
  by_cases hi : i < ds.length
  · refine .inr ⟨yl.go F2 H2 s2 sg2.vw.sub i hi, fun σ' H' => ∃ F' ρ', Same F1 F' ∧ Sg K W F' H' σ' ρ' ∧ forL t gb (ds.drop (i + 1)) ρ' = some r, fun σ' H' hN => ?_, fun x H' hy => ?_⟩
    · obtain ⟨F', ρ', z⟩ := hN
      exact ⟨m - 1, by omega, by omega, F', ρ', z⟩
    · obtain ⟨F3, g3, q3⟩ := yl.yld F2 H2 s2 sg2.vw.sub i _ x H' (List.getElem?_eq_getElem hi) hy
      rw [List.drop_eq_getElem_cons hi] at e2
      obtain ⟨ρ3, e3, e2⟩ := bind_some_iff e2
      obtain ⟨r4, e4, e2⟩ := bind_some_iff e2
      refine ⟨_, F3, ρ2, ds[i], ρ3, sg2.vw.grow g3, q3, e3, fun σ3 vw3 _ => ⟨⟨W.H0, F3, W.B⟩, F3, ρ3, r4, ⟨⟨(sg2.ok.grow g3).same, (sg2.ok.grow g3).live, Same.refl _, fun _ _ z => .inl z⟩, vw3⟩, e4, ?_⟩⟩
      have up : ∀ {F4 H4 : Hp}, Ok0 ⟨W.H0, F3, W.B⟩ F4 H4 → Ok0 W F4 H4 := fun {F4 H4} ok => ⟨ok.same, ok.live, (sg2.ok.grow g3).up.trans ok.up, fun a o z => by
        rcases ok.new a o z with w | w
        · exact (sg2.ok.grow g3).new a o w
        · exact .inr w⟩
      cases r4 with
      | nx ρ4 => exact fun σ4 F4 H4 sg4 => ⟨F4, ρ4, (s2.trans g3.ff).trans sg4.ok.up, ⟨up sg4.ok, sg4.vw⟩, e2⟩
      | rt d =>
        cases e2
        exact fun v F4 H4 o => k v F4 H4 ⟨up o.ok, o.sub, o.da⟩
  · have ei : i = ds.length := by omega
    subst ei
    refine .inl ⟨yl.stop F2 H2 s2 sg2.vw.sub, ?_⟩
    rw [List.drop_length] at e2
    cases e2
    exact k σ2 F2 H2 sg2
theorem psd_for {tg iter : Expr} {body : List Stmt} {t : Tg} {fi : En → Option (List D)} {gb : En → Option Res} (hp : PassesOwn (model X.prog X.w) X.A X.env X.xe) (hc : X.calm = true) (hi : PI X tg iter (iD X.kf fi)) (hg : PG X tg (gD X.kf t)) (hb : PSs X body (sD X.kf gb)) (hs : ∀ x, foldedSetIterable iter X.env x = pure x) :
    PS X (.For tg iter body [] pos) (sD X.kf (gfor t fi gb)) := PSi (ps_for hp hc hi hg hb hs) fun _ _ _ h => tFor_d h
end
section
variable {X : Cx}
/-! ### backward -/
def revD : D → Option D
  | .tup xs => some (.tup xs.reverse)
  | .str l => if l.length ≤ sizeLine then some (.str l.reverse) else none
  | .lst xs => some (.lst xs.reverse)
  | _ => none
def rRev (K : Kf) : V → Hp → VK → Prop := fun x H Q =>
  (∃ a xs, x = .ref a ∧ SqT K H a xs ∧ ∀ p, H p = none → Q (.ref p) (upd H p (.tup xs.reverse))) ∨
  (∃ a xs, x = .ref a ∧ SqL K H a xs ∧ ∀ p, H p = none → Q (.ref p) (upd H p (.lst xs.reverse))) ∨
  (∃ l, x = .str (mkS l) ∧ l.length ≤ sizeLine ∧ Q (.str (mkS l.reverse)) H)
theorem filterMap_some' {α β : Type} {f : α → Option β} {g : α → β} : ∀ {l : List α}, (∀ x ∈ l, f x = some (g x)) → l.filterMap f = l.map g
  | [], _ => rfl
  | x :: r, h => by rw [List.filterMap_cons, h x (List.mem_cons_self ..), List.map_cons, filterMap_some' fun y hy => h y (List.mem_cons_of_mem _ hy)]
theorem range_rev {α : Type} [Inhabited α] (l : List α) : (List.range l.length).map (fun k => l.getD (l.length - 1 - k) default) = l.reverse := by
  apply List.ext_getElem?
  intro i
  by_cases hi : i < l.length
  · rw [List.getElem?_map, List.getElem?_range hi, List.getElem?_reverse hi, Option.map_some, List.getElem?_eq_getElem (by omega), List.getD_eq_getElem?_getD, List.getElem?_eq_getElem (by omega), Option.getD_some]
  · rw [List.getElem?_eq_none (by simp; omega), List.getElem?_eq_none (by simp; omega)]
theorem pick_rev {α : Type} [Inhabited α] (l : List α) : (List.range l.length).filterMap (fun k => l.toArray[l.length - 1 - k]?) = l.reverse := by
  rw [filterMap_some' (g := fun k => l.getD (l.length - 1 - k) default), range_rev]
  intro j hj
  have := List.mem_range.mp hj
  rw [List.getElem?_toArray, List.getD_eq_getElem?_getD, List.getElem?_eq_getElem (by omega), Option.getD_some]
theorem rev_str (l : List Nat) : ((Builtin.Str.strSliceIndices none none (-1) (mkS l).length).filterMap ((mkS l).cps[·]?)).toArray = l.reverse.toArray := by
  rw [PyProof.Rows.picked_rev, mkS_length]
  congr 1
  show (List.map (fun k => l.length - 1 - k) (List.range l.length)).filterMap (l.toArray[·]?) = l.reverse
  rw [List.filterMap_map]
  exact pick_rev l
theorem adjust_rev (n : Nat) : Builtin.Slice.sliceAdjust none none (-1) (n : Int) = ((n : Int) - 1, -1) := by
  unfold Builtin.Slice.sliceAdjust
  rfl
theorem places_rev (n : Nat) : Builtin.Slice.slicePlaces ((n : Int) - 1) (-1) (-1) = n := by
  unfold Builtin.Slice.slicePlaces
  have h1 : ¬ ((-1 : Int) > 0) := by omega
  have e : (- -1 : Int) = 1 := by decide
  simp only [h1, if_false, e, Int.ediv_one]
  split <;> omega
theorem sliceApplied_rev {prog : Program} {w : World} {A : Around} {E : Value → Shared → Prop} {s : Shared} {sl : Addr} {vs : Value} {n : Nat} {Q : Int × Int × Nat → Shared → Prop} (hs : s.heap.IsSliceOf sl .none .none vs) (ps : IsPart vs (some (-1)))
    (h : Q ((n : Int) - 1, -1, n) s) : wpAny (model prog w) A (Builtin.Slice.sliceApplied (.ref sl) (pure (n : Int))) Q E s := by
  obtain ⟨os, hos, hcs, hds⟩ := id hs
  unfold Builtin.Slice.sliceApplied Builtin.Slice.sliceFields
  refine wpAny_bind (wpAny_bind (wpAny_field hos hds (x := .none) rfl (wpAny_bind (wpAny_field hos hds (x := .none) rfl (wpAny_bind (wpAny_field hos hds (x := vs) rfl (wpAny_pure ?_)))))))
  refine wpAny_bind (HT.slicePart_ ps ?_)
  show wpAny _ _ (if ((-1 : Int) == 0) = true then _ else _) _ _ s
  rw [if_neg (by decide)]
  refine wpAny_bind (HT.slicePart_ .none (wpAny_bind (HT.slicePart_ .none (wpAny_bind (wpAny_pure ?_)))))
  show wpAny _ _ (match Builtin.Slice.sliceAdjust none none (-1) (n : Int) with | (lo, hi) => pure (lo, (-1 : Int), Builtin.Slice.slicePlaces lo hi (-1))) _ _ s
  rw [adjust_rev n]
  show wpAny _ _ (pure ((n : Int) - 1, (-1 : Int), Builtin.Slice.slicePlaces ((n : Int) - 1) (-1) (-1))) _ _ s
  rw [places_rev]
  exact wpAny_pure h
theorem pick_revA (items : List Value) : ((List.range items.toArray.size).filterMap fun (m : Nat) => items.toArray[(((items.toArray.size : Nat) : Int) - 1 + (m : Int) * -1).toNat]?).toArray = items.reverse.toArray := by
  rw [List.size_toArray]
  congr 1
  have := pick_rev (α := Value) items
  rw [← this]
  apply congrArg (fun f => List.filterMap f _)
  funext m
  have e : ((items.length : Int) - 1 + (m : Int) * -1).toNat = items.length - 1 - m := by omega
  rw [e]
theorem getItem_tuple_rev {prog : Program} {w : World} {A : Around} {E : Value → Shared → Prop} {s : Shared} {t sl : Addr} {items : List Value} {vs : Value} {Q : Value → Shared → Prop} (ht : IsTup s.heap t items.toArray) (hs : s.heap.IsSliceOf sl .none .none vs) (ps : IsPart vs (some (-1)))
    (h : Q (.ref s.heap.objs.size) { s with heap := s.heap.push { cls := .type "tuple", data := .seq items.reverse.toArray } })
    (hsz : items.length ≤ sizeLine) : wpAny (model prog w) A (getItem (.ref t) (.ref sl)) Q E s := by
  have htake : sizeOk (.seq items.reverse.toArray) := by
    show items.reverse.toArray.size ≤ sizeLine
    rw [List.size_toArray, List.length_reverse]
    exact hsz
  obtain ⟨os, hos, hcs, hds⟩ := id hs
  have hTs : s.TypeIs (.ref sl) "slice" := ⟨os, hos, hcs⟩
  unfold getItem
  try with_reducible refine wpAny_holding ?_
  first | refine wpAny_bind (wpAny_pure ?_) | skip
  refine wpAny_bind (wpAny_sequenceKey ht.typeIs (by decide) ?_)
  refine wpAny_bind (wpAny_callSpecial?_slot (name := Str.ofString "__getitem__") ht.typeIs PyProof.Rows.slot_tuple_getitem
    (wpAny_call_entry PyProof.Rows.slot_tuple_getitem ht.typeIs entry_tuple_getitem ?_ (args_tuple_getitem _ _)))
  show wpAny _ _ (Builtin.Tuple.tupleItemsOf (.ref t) >>= _) _ _ s
  refine wpAny_bind (tupleItemsOf_ ht ?_)
  refine wpAny_bind (wpAny_typeOf hTs ?_)
  rw [if_pos (by decide)]
  refine wpAny_bind (sliceApplied_rev hs ps ?_)
  have hno : ¬ (((((items.toArray.size : Nat) : Int) - 1) == 0 && (-1 : Int) == 1 && items.toArray.size == items.toArray.size) = true) := by
    intro q
    rw [Bool.and_eq_true, Bool.and_eq_true] at q
    exact absurd q.1.2 (by decide)
  show wpAny _ _ (if ((((items.toArray.size : Nat) : Int) - 1) == 0 && (-1 : Int) == 1 && items.toArray.size == items.toArray.size) = true then _ else _) _ _ s
  rw [if_neg hno, pick_revA]
  first
    | exact wpAny_bind (m := Builtin.Tuple.tupleExact _) (wpAny_newObj_type (wpAny_pure ⟨_, rfl, wpAny_pure h⟩) htake)
    | exact wpAny_bind (m := Builtin.Tuple.tupleExact _) (wpAny_newObj_type (wpAny_bind (wpAny_pure (wpAny_pure ⟨_, rfl, wpAny_pure h⟩))) htake)
    | exact wpAny_bind (wpAny_bind (m := Builtin.Tuple.tupleExact _) (wpAny_newObj_type (wpAny_pure (wpAny_pure ⟨_, rfl, wpAny_pure h⟩)) htake))
    | exact wpAny_bind (wpAny_bind (m := Builtin.Tuple.tupleExact _) (wpAny_newObj_type (wpAny_pure ⟨_, rfl, wpAny_pure h⟩) htake))
def tRev (K : Kf) (te : TE) : TE := fun σ H Q => te σ H fun x H1 => rRev K x H1 Q
theorem pe_rev {e : Expr} {te : TE} {k : Nat} {p1 p2 p3 pos : Pos} (he : PE X e te) : PE X (.Subscript e (.Slice none none (some (.UnaryOp .USub (.Constant (.int 1) k p1) p2)) p3) pos) (tRev X.kf te) := by
  refine ⟨fun pins s σ H Q I h => ?_⟩
  refine Subscript_ (thn (he.run pins s σ H _ I h) fun v s1 ⟨x, H1, I1, r1, q1⟩ => ?_)
  have hst : PO X (some (.UnaryOp .USub (.Constant (.int 1) k p1) p2)) (tPart (tUn (rU fun i => .int (-i)) (tC (.int 1)))) := po_some (pe_un un_neg pe_int)
  refine wpAny_Slice (thn (po_none.run pins s1 σ H1 (fun o H2 => o = none ∧ H2 = H1) I1 ⟨rfl, rfl⟩) fun vl s2 ⟨l, H2, I2, pl, el, e2⟩ => ?_)
  subst el e2
  refine thn (po_none.run pins s2 σ H2 (fun o H3 => o = none ∧ H3 = H2) I2 ⟨rfl, rfl⟩) fun vu s3 ⟨u, H3, I3, pu, eu, e3⟩ => ?_
  subst eu e3
  refine thn (hst.run pins s3 σ H3 (fun o H4 => o = some (-1) ∧ H4 = H3) I3 ⟨1, rfl, -1, rfl, rfl, rfl⟩) fun vs s4 ⟨o, H4, I4, ps, eo, e4⟩ => ?_
  subst eo e4
  have I5 : Inv X pins σ H4 { s4 with heap := s4.heap.push { cls := .type "slice", data := .fields #[vl, vu, vs] } } := I4.kept (t' := s4.toks) fun b ob q => Heap.get?_push_of_some _ q
  have I6 : (s4.heap.push { cls := .type "slice", data := .fields #[vl, vu, vs] }).IsSliceOf s4.heap.objs.size vl vu vs := Heap.IsSliceOf.new _ vl vu vs
  show wpAny (model X.prog X.w) X.A (subscriptTail e (.Slice none none (some (.UnaryOp .USub (.Constant (.int 1) k p1) p2)) p3) v (.ref s4.heap.objs.size)) (EP X pins σ Q) X.xe { s4 with heap := s4.heap.push { cls := .type "slice", data := .fields #[vl, vu, vs] } }
  rcases q1 with ⟨a, xs, rfl, hx, q⟩ | ⟨a, xs, rfl, hx, q⟩ | ⟨l, rfl, hl, q⟩
  · cases r1
    obtain ⟨its, r, ht, hz⟩ := I5.tuple hx
    have hlen := r.length
    refine tail_any (ops := [.ref a, .ref s4.heap.objs.size]) ht.typeIs (PyProof.Rows.slot_tuple_getitem.lookup) ?_ (by with_unfolding_all rfl)
    cases pl
    cases pu
    refine getItem_tuple_rev ht I6 ps ?_ (by omega)
    refine ⟨.ref _, _, I5.laid (t' := s4.toks) (o := .tup xs.reverse) (fun b ob q => Heap.get?_push_of_some _ q) (Nat.le_refl _) ?_, rfl, q _ (I5.hok.fresh (Nat.le_refl _))⟩
    exact ⟨by rw [List.length_reverse]; exact hz, _, r.reverse, IsTup.new _ _⟩
  · cases r1
    obtain ⟨its, r, ht, hz⟩ := I5.list hx
    have hlen := r.length
    refine tail_any (ops := [.ref a, .ref s4.heap.objs.size]) ht.isList.typeIs (PySem.slot_list_getitem.lookup) ?_ (by with_unfolding_all rfl)
    refine wpAny_getItem_list_slice ht.isList I6 pl pu ps (by decide) ?_ (by rw [List.size_toArray]; omega)
    rw [PySem.W.krv_pick]
    refine ⟨.ref _, _, I5.laid (t' := s4.toks) (o := .lst xs.reverse) (fun b ob q => Heap.get?_push_of_some _ q) (Nat.le_refl _) ?_, rfl, q _ (I5.hok.fresh (Nat.le_refl _))⟩
    exact ⟨by rw [List.length_reverse]; exact hz, _, 0, r.reverse, Heap.get?_push_size _ rfl⟩
  · obtain ⟨t, rfl⟩ := r1
    obtain ⟨os, hos, hcs, hds⟩ := I6
    cases pl
    cases pu
    cases ps with
    | int i u =>
      refine tail_any (ops := [.str (mkS l) t, .ref s4.heap.objs.size]) (typeIs_str _ _ _) F.slot_str_getitem.lookup ?_ (by with_unfolding_all rfl)
      refine wpAny_getItem_str_slice (l := none) (u := none) (st := some (-1, u)) ⟨os, hos, hcs, hds⟩ rfl ?_
      show Made.post (if ((-1 : Int) == 1 && (Builtin.Str.strSliceIndices none none (-1) (mkS l).length).length == (mkS l).length) = true then Made.val (.str (mkS l) t)
        else Made.str ⟨((Builtin.Str.strSliceIndices none none (-1) (mkS l).length).filterMap ((mkS l).cps[·]?)).toArray⟩) (EP X pins σ Q) _
      rw [if_neg (by rw [Bool.and_eq_true]; exact fun z => absurd z.1 (by decide)), rev_str]
      exact ⟨by show (mkS l.reverse).length ≤ _; rw [mkS_length, List.length_reverse]; exact hl, .str (mkS l.reverse), _, I5.tok _, ⟨_, rfl⟩, q⟩
theorem pd_rev {a : Expr} {fa : En → Option D} {k : Nat} {p1 p2 p3 pos : Pos} (ha : PE X a (tD X.kf fa)) : PE X (.Subscript a (.Slice none none (some (.UnaryOp .USub (.Constant (.int 1) k p1) p2)) p3) pos) (tD X.kf (bind1 revD fa)) := by
  refine PEi (pe_rev ha) fun σ H Q h => ?_
  obtain ⟨P, F, ρ, d, vw, e, k⟩ := h
  obtain ⟨x, ex, e⟩ := bind_some_iff e
  refine ⟨P, F, ρ, x, vw, ex, fun v F1 H1 g1 q1 => ?_⟩
  unfold revD at e
  split at e
  · cases e
    cases q1 with
    | tup h1 q1 => exact .inl ⟨_, _, rfl, sqT_same g1.fh h1, fun p hp => k _ _ _ (g1.trans (Gr.laid g1.fh hp)) (.tup (.of upd_same) (q1.reverse.same (Gr.laid g1.fh hp).ff))⟩
  · split at e
    · cases e
      cases q1
      exact .inr (.inr ⟨_, rfl, by assumption, k _ F1 H1 g1 (.str _)⟩)
    · cases e
  · cases e
    cases q1 with
    | lst h1 q1 => exact .inr (.inl ⟨_, _, rfl, .of (g1.fh _ _ h1), fun p hp => k _ _ _ (g1.trans (Gr.laid g1.fh hp)) (.lst upd_same (q1.reverse.same (Gr.laid g1.fh hp).ff))⟩)
  · cases e

/-! ### methods of texts with no argument -/
inductive M0 where | upper
def M0.name : M0 → Str | .upper => "upper"
def upperD : D → Option D
  | .str l => if l.length ≤ 5592405 then some (.str (TL.tl (Txt.upper (mkS l)))) else none
  | _ => none
def M0.run : M0 → D → Option D | .upper => upperD
theorem pd_m0 {a : Expr} {fa : En → Option D} {apos pos : Pos} (f : M0) (ho : PE X a (tD X.kf fa)) (hbase : attributeBase a f.name X.env (eval a X.env) = eval a X.env) (hline : (apos.endLine == pos.line) = true) :
    PE X (.Call (.Attribute a f.name apos) [] [] pos) (tD X.kf (bind1 f.run fa)) := by
  cases f with
  | upper =>
    refine PEi (pe_upper ho hbase hline) fun σ H Q h => ?_
    obtain ⟨P, F, ρ, d, vw, e, k⟩ := h
    obtain ⟨x, ex, e⟩ := bind_some_iff e
    refine ⟨P, F, ρ, x, vw, ex, fun v F1 H1 g1 q1 => ?_⟩
    change upperD x = some d at e
    unfold upperD at e
    split at e
    · split at e
      · cases e
        cases q1
        refine ⟨⟨_, rfl⟩, _, rfl, rfl, by rw [mkS_length]; assumption, k _ F1 H1 g1 ?_⟩
        have := Da.str (K := X.kf) (F := F1) (TL.tl (Txt.upper (mkS ‹List Nat›)))
        rw [mkS_tl] at this
        exact this
      · cases e
    · cases e
theorem psd_try {body : List Stmt} {h₀ : ExceptHandler} {hs : List ExceptHandler} {g : En → Option Res} {pos : Pos} (h : PSs X.nox body (sD X.kf g)) : PS X (.Try body (h₀ :: hs) [] [] pos) (sD X.kf g) := ps_try_thru0 h
theorem psd_nvr {s : Stmt} : PS X s (sD X.kf fun _ => none) := ⟨fun pins s σ H D I h => by
  obtain ⟨W, F, ρ, r, sg, e, _⟩ := h
  cases e⟩
end
/-! ### order of data -/
def dlt (a b : D) : Bool := PySem.W.dataLt (toPy a) (toPy b)
def dgt (y a : D) : Bool := dlt a y
def dlk (a b : D) : Bool := PySem.W.alike (toPy a) (toPy b)
def cmpOk (a b : D) : Bool := dlk a b && !isNon a && decide ((toPy a).depth ≤ 60) && ((toPy a).canLay0 && (toPy b).canLay0)
def ltX (a b : D) : Option D := if cmpOk a b then some (.bl (dlt a b)) else none
def gtX (a b : D) : Option D := if cmpOk a b then some (.bl (dlt b a)) else none
def leX (a b : D) : Option D := if cmpOk a b then some (.bl (!dlt b a)) else none
def geX (a b : D) : Option D := if cmpOk a b then some (.bl (!dlt a b)) else none
theorem toPy_ne {a : D} (h : isNon a = false) : toPy a ≠ .none := by
  cases a <;> simp [toPy, isNon] at h ⊢
section
variable {X : Cx}
theorem od_ltX (hu : X.A.units + 65 < cLine) : OpR X (compareOp .Lt) (r2D X.kf ltX) := by
  intro pins s σ H x y v u Q I rx ry h
  obtain ⟨F, a, b, d, sf, ha, hb, e, k⟩ := h
  unfold ltX at e
  split at e
  · rename_i hc
    unfold cmpOk dlk at hc
    simp only [Bool.and_eq_true, Bool.not_eq_true', decide_eq_true_eq] at hc
    cases e
    obtain ⟨as, r1⟩ := Dp.reads I _ _ _ (ha.dp sf hc.2.1) rx
    obtain ⟨bs, r2⟩ := Dp.reads I _ _ _ (hb.dp sf hc.2.2) ry
    have hd := Nat.min_le_left (toPy a).depth (toPy b).depth
    exact PySem.W.lt_data r1 r2 hc.1.1.1 (toPy_ne hc.1.1.2) (by omega) ⟨.bl _, H, I, rfl, k _ F H (Gr.refl sf) (.bl _)⟩
  · cases e
theorem od_gtX (hu : X.A.units + 65 < cLine) : OpR X (compareOp .Gt) (r2D X.kf gtX) := by
  intro pins s σ H x y v u Q I rx ry h
  obtain ⟨F, a, b, d, sf, ha, hb, e, k⟩ := h
  unfold gtX at e
  split at e
  · rename_i hc
    unfold cmpOk dlk at hc
    simp only [Bool.and_eq_true, Bool.not_eq_true', decide_eq_true_eq] at hc
    cases e
    obtain ⟨as, r1⟩ := Dp.reads I _ _ _ (ha.dp sf hc.2.1) rx
    obtain ⟨bs, r2⟩ := Dp.reads I _ _ _ (hb.dp sf hc.2.2) ry
    have hd := Nat.min_le_left (toPy a).depth (toPy b).depth
    exact PySem.W.gt_data r1 r2 hc.1.1.1 (toPy_ne hc.1.1.2) (by omega) ⟨.bl _, H, I, rfl, k _ F H (Gr.refl sf) (.bl _)⟩
  · cases e
theorem od_leX (hu : X.A.units + 65 < cLine) : OpR X (compareOp .LtE) (r2D X.kf leX) := by
  intro pins s σ H x y v u Q I rx ry h
  obtain ⟨F, a, b, d, sf, ha, hb, e, k⟩ := h
  unfold leX at e
  split at e
  · rename_i hc
    unfold cmpOk dlk at hc
    simp only [Bool.and_eq_true, Bool.not_eq_true', decide_eq_true_eq] at hc
    cases e
    obtain ⟨as, r1⟩ := Dp.reads I _ _ _ (ha.dp sf hc.2.1) rx
    obtain ⟨bs, r2⟩ := Dp.reads I _ _ _ (hb.dp sf hc.2.2) ry
    have hd := Nat.min_le_left (toPy a).depth (toPy b).depth
    exact PySem.W.le_data r1 r2 hc.1.1.1 (toPy_ne hc.1.1.2) (by omega) ⟨.bl _, H, I, rfl, k _ F H (Gr.refl sf) (.bl _)⟩
  · cases e
theorem od_geX (hu : X.A.units + 65 < cLine) : OpR X (compareOp .GtE) (r2D X.kf geX) := by
  intro pins s σ H x y v u Q I rx ry h
  obtain ⟨F, a, b, d, sf, ha, hb, e, k⟩ := h
  unfold geX at e
  split at e
  · rename_i hc
    unfold cmpOk dlk at hc
    simp only [Bool.and_eq_true, Bool.not_eq_true', decide_eq_true_eq] at hc
    cases e
    obtain ⟨as, r1⟩ := Dp.reads I _ _ _ (ha.dp sf hc.2.1) rx
    obtain ⟨bs, r2⟩ := Dp.reads I _ _ _ (hb.dp sf hc.2.2) ry
    have hd := Nat.min_le_left (toPy a).depth (toPy b).depth
    exact PySem.W.ge_data r1 r2 hc.1.1.1 (toPy_ne hc.1.1.2) (by omega) ⟨.bl _, H, I, rfl, k _ F H (Gr.refl sf) (.bl _)⟩
  · cases e
end

/-! ### the least, the greatest -/
def seqOk (ds : List D) : Bool := ds.all (fun a => ds.all fun b => dlk a b) && ds.all (fun a => !isNon a) && decide (PyData.depthAll (toPys ds) ≤ 60) && PyData.canLayAll0 (toPys ds)
def bestL (f : D → D → Bool) : List D → Option D
  | [] => none
  | x :: xs => if seqOk (x :: xs) then some (xs.foldl (fun a y => if f y a then y else a) x) else none
theorem toPys_getD (ds : List D) (i : Nat) : (toPys ds).getD i .none = toPy (ds.getD i .non) := by
  rw [toPys_map, List.getD_eq_getElem?_getD, List.getD_eq_getElem?_getD, List.getElem?_map]
  cases ds[i]? with
  | none => rfl
  | some d => rfl
theorem seqOk_alike {ds : List D} (h : seqOk ds = true) : PySem.W.AlikeAll (toPys ds) ∧ PyData.depthAll (toPys ds) ≤ 60 := by
  unfold seqOk at h
  simp only [Bool.and_eq_true, decide_eq_true_eq, List.all_eq_true, Bool.not_eq_true'] at h
  refine ⟨⟨fun x hx y hy => ?_, fun x hx => ?_⟩, h.1.2⟩
  · rw [toPys_map] at hx hy
    obtain ⟨a, ha, rfl⟩ := List.mem_map.mp hx
    obtain ⟨b, hb, rfl⟩ := List.mem_map.mp hy
    exact h.1.1.1 a ha b hb
  · rw [toPys_map] at hx
    obtain ⟨a, ha, rfl⟩ := List.mem_map.mp hx
    exact toPy_ne (h.1.1.2 a ha)
theorem seqOk_lay {ds : List D} (h : seqOk ds = true) : PyData.canLayAll0 (toPys ds) = true := by
  unfold seqOk at h
  simp only [Bool.and_eq_true] at h
  exact h.2
theorem best_at {f : D → D → Bool} {x : D} {xs : List D} : (x :: xs).getD (argBest (fun i j => f ((x :: xs).getD i .non) ((x :: xs).getD j .non)) xs.length) .non = xs.foldl (fun a y => if f y a then y else a) x ∧
    argBest (fun i j => f ((x :: xs).getD i .non) ((x :: xs).getD j .non)) xs.length ≤ xs.length := by
  have := PySem.W.argBest_fold f D.non x xs xs.length (Nat.le_refl _)
  rw [List.take_length] at this
  exact ⟨this.2, this.1⟩
theorem Das.pick {K : Kf} {F : Hp} {vs : List V} {its : List Value} {ds : List D} {i : Nat} {v : Value} (q : Das K F vs ds) (r : Vals vs its) (h : its[i]? = some v) : ∃ w, RelV w v ∧ Da K F w (ds.getD i .non) := by
  obtain ⟨w, hw, rw'⟩ : ∃ w, vs[i]? = some w ∧ RelV w v := by
    have hi : i < its.length := (List.getElem?_eq_some_iff.mp h).1
    have hi' : i < vs.length := by rw [r.length]; exact hi
    refine ⟨vs[i], List.getElem?_eq_getElem hi', ?_⟩
    obtain ⟨u, hu, ru⟩ := r.get (List.getElem?_eq_getElem hi')
    rw [h] at hu
    cases hu
    exact ru
  obtain ⟨d, hd, dd⟩ := q.get' hw
  refine ⟨w, rw', ?_⟩
  rw [List.getD_eq_getElem?_getD, hd]
  exact dd
section
variable {X : Cx}
def seqD : D → Option (List D)
  | .lst xs => some xs
  | .tup xs => some xs
  | _ => none
def minX (a : D) : Option D := (seqD a).bind (bestL dlt)
def maxX (a : D) : Option D := (seqD a).bind (bestL dgt)
theorem cd_minX (hc : X.calm = true) (hu : X.A.units + 65 < cLine) : CallR X (.builtin "min") (fun xs H Q => ∃ x F a d, xs = [x] ∧ Same F H ∧ Da X.kf F x a ∧ minX a = some d ∧ ∀ v F' H', Gr F H F' H' → Da X.kf F' v d → Q v H') := by
  intro pins s σ H xs us Q I r h
  obtain ⟨x, F, a, d, rfl, sf, ha, e, k⟩ := h
  have hh := I.ok.hd hc
  obtain ⟨ds, es, e⟩ := bind_some_iff e
  unfold bestL at e
  split at e
  · cases e
  rename_i x0 xs0
  have hok : seqOk (x0 :: xs0) = true := by
    split at e
    · assumption
    · cases e
  rw [if_pos hok] at e
  cases e
  obtain ⟨hal, hdp⟩ := seqOk_alike hok
  have ebt : (fun i j => PySem.W.dataLt ((toPys (x0 :: xs0)).getD i .none) ((toPys (x0 :: xs0)).getD j .none)) = fun i j => dlt ((x0 :: xs0).getD i .non) ((x0 :: xs0).getD j .non) := by
    funext i j
    rw [toPys_getD, toPys_getD]
    rfl
  unfold seqD at es
  split at es
  · cases es
    cases ha with
    | lst h1 q1 =>
      rw [Vals.ref1 r]
      obtain ⟨its, rv, hl, hz⟩ := I.list (.of (sf _ _ h1))
      obtain ⟨as, hr⟩ := Dp.readsAll I _ _ _ (q1.dp sf (seqOk_lay hok)) rv
      have hn : its.toArray.size = xs0.length + 1 := by rw [List.size_toArray, ← rv.length, q1.length]; rfl
      refine call_min_walkH (PySem.W.iter_listW (A := X.A.in1) hh hl.isList fun s₂ e W st hfp hw hk => ?_)
      refine ⟨_, _, _, _, _, _, _, s.heap, _, rfl, W, st, hfp, by omega, hw, hk, PySem.W.cmpIn_lt (A := X.A.in1) (vs := its.toArray) (by simpa using hr) hal (by show X.A.units + 1 + _ < _; omega), fun v s' hP m => ?_⟩
      obtain ⟨h', tk, rfl, hk'⟩ := PySem.W.moved_old e rfl m
      rw [ebt, show its.toArray.size - 1 = xs0.length by omega] at hP
      have hP' : its[argBest (fun i j => dlt ((x0 :: xs0).getD i .non) ((x0 :: xs0).getD j .non)) xs0.length]? = some v := by simpa using hP
      obtain ⟨w, rw', dw⟩ := q1.pick rv hP'
      rw [best_at.1] at dw
      exact ⟨w, H, I.kept hk', rw', k _ F H (Gr.refl sf) dw⟩
  · cases es
    cases ha with
    | tup h1 q1 =>
      rw [Vals.ref1 r]
      obtain ⟨its, rv, hl, hz⟩ := I.tuple (sqT_same sf h1)
      obtain ⟨as, hr⟩ := Dp.readsAll I _ _ _ (q1.dp sf (seqOk_lay hok)) rv
      have hn : its.toArray.size = xs0.length + 1 := by rw [List.size_toArray, ← rv.length, q1.length]; rfl
      refine call_min_walkH (PySem.W.iter_tupleW (A := X.A.in1) hh hl fun s₂ e W st hfp hw hk => ?_)
      refine ⟨_, _, _, _, _, _, _, s.heap, _, rfl, W, st, hfp, by omega, hw, hk, PySem.W.cmpIn_lt (A := X.A.in1) (vs := its.toArray) (by simpa using hr) hal (by show X.A.units + 1 + _ < _; omega), fun v s' hP m => ?_⟩
      obtain ⟨h', tk, rfl, hk'⟩ := PySem.W.moved_old e rfl m
      rw [ebt, show its.toArray.size - 1 = xs0.length by omega] at hP
      have hP' : its[argBest (fun i j => dlt ((x0 :: xs0).getD i .non) ((x0 :: xs0).getD j .non)) xs0.length]? = some v := by simpa using hP
      obtain ⟨w, rw', dw⟩ := q1.pick rv hP'
      rw [best_at.1] at dw
      exact ⟨w, H, I.kept hk', rw', k _ F H (Gr.refl sf) dw⟩
  · cases es
theorem cd_maxX (hc : X.calm = true) (hu : X.A.units + 65 < cLine) : CallR X (.builtin "max") (fun xs H Q => ∃ x F a d, xs = [x] ∧ Same F H ∧ Da X.kf F x a ∧ maxX a = some d ∧ ∀ v F' H', Gr F H F' H' → Da X.kf F' v d → Q v H') := by
  intro pins s σ H xs us Q I r h
  obtain ⟨x, F, a, d, rfl, sf, ha, e, k⟩ := h
  have hh := I.ok.hd hc
  obtain ⟨ds, es, e⟩ := bind_some_iff e
  unfold bestL at e
  split at e
  · cases e
  rename_i x0 xs0
  have hok : seqOk (x0 :: xs0) = true := by
    split at e
    · assumption
    · cases e
  rw [if_pos hok] at e
  cases e
  obtain ⟨hal, hdp⟩ := seqOk_alike hok
  have ebt : (fun i j => PySem.W.dataLt ((toPys (x0 :: xs0)).getD j .none) ((toPys (x0 :: xs0)).getD i .none)) = fun i j => dgt ((x0 :: xs0).getD i .non) ((x0 :: xs0).getD j .non) := by
    funext i j
    rw [toPys_getD, toPys_getD]
    rfl
  unfold seqD at es
  split at es
  · cases es
    cases ha with
    | lst h1 q1 =>
      rw [Vals.ref1 r]
      obtain ⟨its, rv, hl, hz⟩ := I.list (.of (sf _ _ h1))
      obtain ⟨as, hr⟩ := Dp.readsAll I _ _ _ (q1.dp sf (seqOk_lay hok)) rv
      have hn : its.toArray.size = xs0.length + 1 := by rw [List.size_toArray, ← rv.length, q1.length]; rfl
      refine call_max_walkH (PySem.W.iter_listW (A := X.A.in1) hh hl.isList fun s₂ e W st hfp hw hk => ?_)
      refine ⟨_, _, _, _, _, _, _, s.heap, _, rfl, W, st, hfp, by omega, hw, hk, PySem.W.cmpIn_gt (A := X.A.in1) (vs := its.toArray) (by simpa using hr) hal (by show X.A.units + 1 + _ < _; omega), fun v s' hP m => ?_⟩
      obtain ⟨h', tk, rfl, hk'⟩ := PySem.W.moved_old e rfl m
      rw [ebt, show its.toArray.size - 1 = xs0.length by omega] at hP
      have hP' : its[argBest (fun i j => dgt ((x0 :: xs0).getD i .non) ((x0 :: xs0).getD j .non)) xs0.length]? = some v := by simpa using hP
      obtain ⟨w, rw', dw⟩ := q1.pick rv hP'
      rw [best_at.1] at dw
      exact ⟨w, H, I.kept hk', rw', k _ F H (Gr.refl sf) dw⟩
  · cases es
    cases ha with
    | tup h1 q1 =>
      rw [Vals.ref1 r]
      obtain ⟨its, rv, hl, hz⟩ := I.tuple (sqT_same sf h1)
      obtain ⟨as, hr⟩ := Dp.readsAll I _ _ _ (q1.dp sf (seqOk_lay hok)) rv
      have hn : its.toArray.size = xs0.length + 1 := by rw [List.size_toArray, ← rv.length, q1.length]; rfl
      refine call_max_walkH (PySem.W.iter_tupleW (A := X.A.in1) hh hl fun s₂ e W st hfp hw hk => ?_)
      refine ⟨_, _, _, _, _, _, _, s.heap, _, rfl, W, st, hfp, by omega, hw, hk, PySem.W.cmpIn_gt (A := X.A.in1) (vs := its.toArray) (by simpa using hr) hal (by show X.A.units + 1 + _ < _; omega), fun v s' hP m => ?_⟩
      obtain ⟨h', tk, rfl, hk'⟩ := PySem.W.moved_old e rfl m
      rw [ebt, show its.toArray.size - 1 = xs0.length by omega] at hP
      have hP' : its[argBest (fun i j => dgt ((x0 :: xs0).getD i .non) ((x0 :: xs0).getD j .non)) xs0.length]? = some v := by simpa using hP
      obtain ⟨w, rw', dw⟩ := q1.pick rv hP'
      rw [best_at.1] at dw
      exact ⟨w, H, I.kept hk', rw', k _ F H (Gr.refl sf) dw⟩
  · cases es

/-! ### sorted -/
def isTNE : D → Bool
  | .tup (_ :: _) => true
  | _ => false
def sortX (a : D) : Option D := (seqD a).bind fun ds => if seqOk ds && ds.all isTNE && decide (ds.length ≤ sizeLine) then some (.lst (ds.mergeSort (PySem.W.dataLe false toPy))) else none
theorem each_of {K : Kf} {F : Hp} : ∀ {vs : List V} {its : List Value} {ds : List D}, Das K F vs ds → Vals vs its → PySem.W.EachIs (fun v d => ∃ w, RelV w v ∧ Da K F w d) its ds
  | _, _, _, .nil, r => by cases r; exact .nil
  | _, _, _, .cons q qs, r => by
    cases r with
    | cons h t => exact .cons ⟨_, h, q⟩ (each_of qs t)
theorem of_each {K : Kf} {F : Hp} {its : List Value} {ds : List D} (h : PySem.W.EachIs (fun v d => ∃ w, RelV w v ∧ Da K F w d) its ds) : ∃ vs, Vals vs its ∧ Das K F vs ds := by
  induction h with
  | nil => exact ⟨[], .nil, .nil⟩
  | cons h t ih =>
    obtain ⟨w, rw', dw⟩ := h
    obtain ⟨vs, r, q⟩ := ih
    exact ⟨w :: vs, .cons rw' r, .cons dw q⟩
theorem sorted_col {prog : Program} {w : World} {A : Around} {E : Value → Shared → Prop} {s : Shared} {x : Value} {vs : List Value} {R : Value → D → Prop} {bs : List D} {Q : Value → Shared → Prop}
    (hcol : ∀ (Q' : List Value → Shared → Prop) (E' : Value → Shared → Prop), (∀ h' tk, (∀ b o, s.heap.get? b = some o → h'.get? b = some o) → Q' vs { s with heap := h', toks := tk }) → wpAny (model prog w) A.in1 (collect x) Q' E' s)
    (e : PySem.W.EachIs R vs bs) (er : PySem.W.EachIs (fun v b => ∃ as, Reads s.heap v (toPy b) as) vs bs) (hal : PySem.W.AllAlike (bs.map toPy)) (hk : PySem.W.Sortable (bs.map toPy)) (hL : bs.length ≤ sizeLine)
    (hu : ∀ b, b ∈ bs → A.units + 2 + (toPy b).depth < cLine)
    (h : ∀ (h1 h' : Heap) (tk n : Nat) (out : List Value), (∀ b o, s.heap.get? b = some o → h1.get? b = some o) → (∀ b o, h1.get? b = some o → h'.get? b = some o) → h'.get? h1.objs.size = some (seqObj "list" (List.toArray out) n) → PySem.W.EachIs R out (bs.mergeSort (PySem.W.dataLe false toPy)) → Q (.ref h1.objs.size) { s with heap := h', toks := tk }) :
    wpAny (model prog w) A (call (.builtin "sorted") [x]) Q E s := by
  have hL' : vs.length ≤ sizeLine := by rw [e.length]; exact hL
  refine Calls.call_function_entry kind_sorted plain_sorted entry_sorted (args_sorted1 _) ?_
  unfold Builtin.«sorted»
  refine wpAny_bind (m := checkCount "sorted" 1 1 _) (wpAny_pure ?_)
  refine wpAny_bind (hcol _ _ fun h1 tk hk1 => ?_)
  refine wpAny_bind (wpAny_newList ?_ hL')
  have hoL : (h1.push (seqObj "list" vs.toArray 0)).get? h1.objs.size = some (seqObj "list" vs.toArray 0) := Heap.get?_push_size _ rfl
  have keep2 : ∀ b o, s.heap.get? b = some o → (h1.push (seqObj "list" vs.toArray 0)).get? b = some o := fun b o q => Heap.get?_push_of_some _ (hk1 b o q)
  have lt1 : ∀ b o, s.heap.get? b = some o → b < h1.objs.size := fun b o q => Heap.lt_size (hk1 b o q)
  have keep3 : ∀ b o, s.heap.get? b = some o → (PySem.W.sortingHeap (h1.push (seqObj "list" vs.toArray 0)) h1.objs.size vs).get? b = some o := fun b o q => by
    have hb := lt1 b o q
    unfold PySem.W.sortingHeap
    refine Heap.get?_push_of_some _ (Heap.get?_push_of_some _ ?_)
    rw [Heap.get?_update_ne _ _ _ _ (Nat.ne_of_lt hb)]
    exact keep2 b o q
  have er' : PySem.W.EachIs (fun v b => ∃ as, Reads (PySem.W.sortingHeap (h1.push (seqObj "list" vs.toArray 0)) h1.objs.size vs) v (toPy b) as) vs bs := er.mono fun _ _ ⟨as, r⟩ => ⟨as, PyProof.Rows.Reads.keeps keep3 r⟩
  have S := PySem.W.SortsAt.data (prog := prog) (w := w) (A := A.in1.in1) (s := { s with toks := tk, heap := PySem.W.sortingHeap (h1.push (seqObj "list" vs.toArray 0)) h1.objs.size vs }) (PySem.W.each_map (R := fun v d => ∃ as, Reads (PySem.W.sortingHeap (h1.push (seqObj "list" vs.toArray 0)) h1.objs.size vs) v d as) toPy er') hal hk (PySem.W.bound_map hu)
  refine wpAny_bind (wpAny_holding (wpAny_call_entry slot_list_sort ⟨_, hoL, rfl⟩ entry_list_sort (PySem.W.list_sort_vals (s := { s with toks := tk, heap := h1.push (seqObj "list" vs.toArray 0) }) hoL S hL' ⟨_, rfl, ?_⟩) (args_list_sort _)))
  obtain ⟨n, hat⟩ := PyProof.Rows.sortedHeap_at (out := (PySem.W.sortVals (PySem.W.dataKind (PySem.W.sortingHeap (h1.push (seqObj "list" vs.toArray 0)) h1.objs.size vs) (bs.map toPy)) false vs vs).toArray) hoL
  refine wpAny_pure ⟨_, rfl, h h1 _ tk n _ hk1 (fun b o q => ?_) hat (PySem.W.sortVals_data false e er' hal)⟩
  have hb := Heap.lt_size q
  rw [PyProof.Rows.sortedHeap_old (Nat.ne_of_lt hb) (by rw [Heap.size_push]; exact Nat.lt_succ_of_lt hb)]
  exact Heap.get?_push_of_some _ q
theorem seqOk_sort {ds : List D} (h : seqOk ds = true) (h2 : ds.all isTNE = true) : PySem.W.AllAlike (ds.map toPy) ∧ PySem.W.Sortable (ds.map toPy) ∧ ∀ b ∈ ds, (toPy b).depth ≤ 60 := by
  obtain ⟨ha, hd⟩ := seqOk_alike h
  rw [toPys_map] at ha hd
  refine ⟨ha.1, .inl fun d hd => ?_, fun b hb => ?_⟩
  · obtain ⟨a, ha, rfl⟩ := List.mem_map.mp hd
    have := List.all_eq_true.mp h2 a ha
    unfold isTNE at this
    split at this
    · exact ⟨_, _, rfl⟩
    · cases this
  · refine Nat.le_trans ?_ hd
    have : ∀ (l : List PyData) (p : PyData), p ∈ l → p.depth ≤ PyData.depthAll l := by
      intro l
      induction l with
      | nil => intro p hp; cases hp
      | cons x xs ih =>
        intro p hp
        rw [PyData.depthAll]
        rcases List.mem_cons.mp hp with rfl | hp
        · exact Nat.le_max_left _ _
        · exact Nat.le_trans (ih p hp) (Nat.le_max_right _ _)
    exact this _ _ (List.mem_map_of_mem hb)
theorem cd_sort (hu : X.A.units + 65 < cLine) : CallR X (.builtin "sorted") (fun xs H Q => ∃ x F a d, xs = [x] ∧ Same F H ∧ Da X.kf F x a ∧ sortX a = some d ∧ ∀ v F' H', Gr F H F' H' → Da X.kf F' v d → Q v H') := by
  intro pins s σ H xs us Q I r h
  obtain ⟨x, F, a, d, rfl, sf, ha, e, k⟩ := h
  obtain ⟨ds, es, e⟩ := bind_some_iff e
  split at e
  · rename_i hok
    simp only [Bool.and_eq_true, decide_eq_true_eq] at hok
    obtain ⟨⟨hok, htn⟩, hlen⟩ := hok
    cases e
    obtain ⟨hal, hk, hdp⟩ := seqOk_sort hok htn
    have fin : ∀ {T : String} {l : Addr} {o : Obj} {n : Nat} {vs : List V} {its : List Value}, us = [.ref l] → T = "list" ∨ T = "tuple" → s.heap.get? l = some o → o.cls = .type T → o.data = .seq its.toArray n → Vals vs its → Das X.kf F vs ds →
        wpAny (model X.prog X.w) X.A (call (.builtin "sorted") us) (EP X pins σ Q) X.xe s := by
      intro T l o n vs its hus hT ho hc hd rv q1
      subst hus
      obtain ⟨as, hr⟩ := Dp.readsAll I _ _ _ (q1.dp sf (seqOk_lay hok)) rv
      rw [toPys_map] at hr
      refine sorted_col (vs := its) (bs := ds) (R := fun v d => ∃ w, RelV w v ∧ Da X.kf F w d) (fun Q' E' hq => ?_) (each_of q1 rv) (PySem.W.readsAll_each toPy hr) hal hk hlen (fun b hb => by have := hdp b hb; omega) fun h1 h' tk n' out k1 k2 hat he => ?_
      · exact wpAny_collect_seq (A := X.A.in1) l hT ho hc hd (fun h' kk => by simpa using hq h' s.toks kk) (by rw [List.size_toArray, ← rv.length, q1.length]; exact hlen)
      · obtain ⟨ws, rw', dw⟩ := of_each he
        have I1 : Inv X pins σ H { s with heap := h1, toks := tk } := I.kept (t' := tk) k1
        refine ⟨.ref h1.objs.size, _, I1.laid (t' := tk) (o := .lst ws) (fun b ob q => k2 b ob q) (Nat.le_refl _) ?_, rfl, k _ _ _ (Gr.laid sf (I1.hok.fresh (Nat.le_refl _))) (.lst upd_same (dw.same (Gr.laid sf (I1.hok.fresh (Nat.le_refl _))).ff))⟩
        exact ⟨by rw [dw.length, List.length_mergeSort]; exact hlen, out, n', rw', hat⟩
    unfold seqD at es
    split at es
    · cases es
      cases ha with
      | lst h1 q1 =>
        obtain ⟨its, rv, hl, hz⟩ := I.list (.of (sf _ _ h1))
        obtain ⟨o, ho, hc, n, hd⟩ := hl.isList
        exact fin (Vals.ref1 r) (.inl rfl) ho hc hd rv q1
    · cases es
      cases ha with
      | tup h1 q1 =>
        obtain ⟨its, rv, hl, hz⟩ := I.tuple (sqT_same sf h1)
        obtain ⟨o, ho, hc, n, hd⟩ := hl
        exact fin (Vals.ref1 r) (.inr rfl) ho hc hd rv q1
    · cases es
  · cases e
end
/-! ### enumerate(tuple) -/
theorem meets_enumerate_new1 {v : Value} {o : Obj} {H : Heap → Prop} (B : Begins v o H) :
    Meets (Builtin.«enumerate.__new__» ⟨[.type "enumerate", v], []⟩) (fun _ R s => H s.heap ∧
      R (.ok (.ret (.ref (s.heap.push o).objs.size))) { s with heap := (s.heap.push o).push { cls := .type "enumerate", data := .fields #[.none, .bool false, .ref s.heap.objs.size, rawInt 0, .none, .none] } }) :=
  .of_wp fun prog w A R s h => by
    obtain ⟨hp, g, d, tk, os⟩ := s; obtain ⟨h1, h⟩ := h
    have hsub := sub_enumerate
    have q1 : ∀ {A' : Around} {E : Value → Shared → Prop} {Q : Value → Shared → Prop}, Q (.ref hp.objs.size) ⟨hp.push o, g, d, tk, os⟩ → wpAny (model prog w) A' (pyIter v) Q E ⟨hp, g, d, tk, os⟩ :=
      fun q => B.iter prog w _ _ ⟨hp, g, d, tk, os⟩ _ h1 q
    wp_walk using q1
    refine wpAny_stack_any fun st => wpAny_pure ?_
    split
    · rename_i c _ _ _ _ _
      cases (c == Value.type "enumerate")
      · wp_walk using q1
        exact ⟨_, rfl, h⟩
      · wp_walk using q1
        exact ⟨_, rfl, h⟩
    · wp_walk using q1
      exact ⟨_, rfl, h⟩
theorem enum_begins1 {prog : Program} {w : World} {A : Around} {E : Value → Shared → Prop} {s : Shared} {v : Value} {o : Obj} {H : Heap → Prop} {Q : Value → Shared → Prop} (B : Begins v o H) (h1 : H s.heap)
    (h : ∀ h', IsEnum h' (s.heap.objs.size + 1) s.heap.objs.size 0 .none → h'.get? s.heap.objs.size = some o → h'.objs.size = s.heap.objs.size + 2 →
      (∀ b o, s.heap.get? b = some o → h'.get? b = some o) → Q (.ref (s.heap.objs.size + 1)) { s with heap := h' }) :
    wpAny (model prog w) A (call (.type "enumerate") [v]) Q E s := by
  refine callType_new F.called_enumerate (by decide) (F.typeCall_enumerate_1 _) (F.newCall_enumerate_1 _) (fun obj => F.args_object_init_2 obj _) F.entry_enumerate_new
    (meets_enumerate_new1 B) ⟨h1, ?_⟩
  have hz : (s.heap.push o).objs.size = s.heap.objs.size + 1 := Heap.size_push ..
  show _ ∧ _
  rw [hz]
  have he : IsEnum ((s.heap.push o).push { cls := .type "enumerate", data := .fields #[.none, .bool false, .ref s.heap.objs.size, rawInt 0, .none, .none] }) (s.heap.objs.size + 1) s.heap.objs.size 0 .none := by
    have := Heap.get?_push_size (s.heap.push o) (o := { cls := .type "enumerate", data := .fields #[.none, .bool false, .ref s.heap.objs.size, rawInt 0, .none, .none] }) rfl
    rw [hz] at this; exact this
  refine ⟨⟨_, he, rfl⟩, h _ he (Heap.get?_push_of_some _ (Heap.get?_push_size _ B.free)) (by rw [Heap.size_push, hz]) fun b o x => Heap.get?_push_of_some _ (Heap.get?_push_of_some _ x)⟩
/-- the tuple at a, each item in a new pair -/
def IteT (K : PySem.W.Frag) (a : Addr) : It :=
  ⟨fun i H => ∃ (xs : List V) (x : V), SqT K H a xs ∧ xs[i]? = some x, fun i H v H' => ∃ T x, v = .ref T ∧ H T = none ∧ H' = upd H T (.tup [.int (i : Nat), x]) ∧ ∀ xs, SqT K H a xs → xs[i]? = some x, fun i H => ∃ xs : List V, SqT K H a xs ∧ xs.length = i⟩
theorem turn_enumT {P : Program} {w : World} {K : PySem.W.Frag} {elts : List Expr} {kk : Nat} {tpos : Pos} (a e it : Addr) :
    Turn P w K (.Tuple elts kk tpos) (IteT K a) [e, it] e (fun i h => (∃ old, IsEnum h e it ((i : Nat) : Int) old) ∧ h.IsTupleIter it a i ∧ e ≠ it ∧ a ≠ it ∧ a ≠ e) where
  mem := by simp
  obj := fun i h st b hb => by
    obtain ⟨⟨old, he⟩, ⟨o, ho, hc, hd⟩, _⟩ := st
    have e' : b = e ∨ b = it := by simpa using hb
    rcases e' with z | z
    · rw [z]; exact ⟨_, he, fun v q => nomatch q⟩
    · rw [z]; exact ⟨o, ho, fun v q => by rw [hd] at q; cases q⟩
  keep := fun i h h' st k => let ⟨⟨old, he⟩, hi, hne⟩ := st; ⟨⟨old, k e (by simp) _ he⟩, hi.at fun o q => k it (by simp) o q, hne⟩
  item := by
    intro X hP hw hK hc i pins s σ H E I hf st hg
    subst hP hw hK
    obtain ⟨⟨old, he⟩, hit, hne, hai, hae⟩ := st
    obtain ⟨xs, x, hq, hx⟩ := hg
    obtain ⟨its, rv, p, hz⟩ := I.tuple hq
    obtain ⟨u, hu, ru⟩ := rv.get hx
    have hel : e < s.heap.objs.size := Heap.lt_size he
    have hil : it < s.heap.objs.size := by obtain ⟨_, q, _⟩ := hit; exact Heap.lt_size q
    have hlt : i < its.toArray.size := by
      have := (List.getElem?_eq_some_iff.mp hu).1
      simpa using this
    refine wpAny_pyNext_enum_itemD (Draws.tuple (A := X.A.in1) (I.ok.hd hc) it a hai its.toArray) he ⟨hit, p⟩ hlt hne (by simp [hne, Ne.symm hae]) fun x' h' tk hP ho hst hT hsz hk => ?_
    have hx' : x' = u := by
      have h0 : its.toArray[i]? = some u := by simpa using hu
      rw [h0] at hP
      cases hP
      rfl
    subst hx'
    refine ⟨_, rfl, wpAny_letOwnedTupleGo_enum (s := { s with heap := h', toks := tk + 1 }) ho fun h'' he' sb => ?_⟩
    have hT2 : h''.get? s.heap.objs.size = some { cls := .type "tuple", data := .seq #[.int i tk, x'] } := (sb.2 _ (Nat.ne_of_gt hel)).trans hT
    have new : ObjOk X.prog X.w (upd H s.heap.objs.size (.tup [.int (i : Nat), x])) h'' s.heap.objs.size (.tup [.int (i : Nat), x]) :=
      ⟨by show 2 ≤ sizeLine; decide, [.int i tk, x'], .cons ⟨_, rfl⟩ (.cons ru .nil), ⟨_, hT2, rfl, _, rfl⟩⟩
    have I1 : Inv X pins σ (upd H s.heap.objs.size (.tup [.int (i : Nat), x])) { s with heap := h'', toks := tk + 1 } :=
      I.turnedNew (ch := [e, it]) (fun b ob hb q => (sb.2 b (fun z => hb (by simp [z]))).trans (hk b ob (fun z => hb (by simp [z])) (fun z => hb (by simp [z])) q)) hf (Nat.le_refl _) new
    refine ⟨.ref s.heap.objs.size, _, I1, rfl, ⟨_, x, rfl, I.hok.fresh (Nat.le_refl _), rfl, fun ys hy => by rw [I.tuple_inj hy hq]; exact hx⟩, ⟨⟨x', ?_⟩, hst.1.at fun o q => (sb.2 it (Ne.symm hne)).trans q, hne, hai, hae⟩, fun b hb => ?_⟩
    · have e1 : ((i + 1 : Nat) : Int) = (i : Int) + 1 := by omega
      rw [e1]; exact he'
    · have hb' : b < s.heap.objs.size := by
        have e' : b = e ∨ b = it := by simpa using hb
        rcases e' with z | z
        · rw [z]; exact hel
        · rw [z]; exact hil
      rw [upd_ne (Nat.ne_of_lt hb')]
      exact (hf b hb).1
  done := by
    intro X hP hw hK hc i pins s σ H E I hf st hg
    subst hP hw hK
    obtain ⟨⟨old, he⟩, hit, hne, hai, hae⟩ := st
    obtain ⟨xs, hq, hx⟩ := hg
    obtain ⟨its, rv, p, hz⟩ := I.tuple hq
    obtain ⟨f0, f1, f2, f3, f4, f5⟩ := hf it (by simp)
    have hl := rv.length
    have hi : i = its.toArray.size := by rw [List.size_toArray, ← hl]; exact hx.symm
    subst hi
    exact wpAny_pyNext_enum_endD (Draws.tuple (A := X.A.in1) (I.ok.hd hc) it a hai its.toArray) he ⟨hit, p⟩ fun h' eb => ⟨rfl, I.turned (t' := s.toks) (fun b o hb q => eb b o hb q) f0 f1 f3 f4 f5⟩
  self := fun A i s Q E st h => let ⟨⟨_, he⟩, _⟩ := st; wpAny_pyIter_enum he h
def iEnumA (K : PySem.W.Frag) (ta : TA) : TI := fun σ H R => ta σ H fun vs H1 => ∃ a xs, vs = [.ref a] ∧ (SqL K H1 a xs ∧ R (Ite K a) H1 ∨ SqT K H1 a xs ∧ R (IteT K a) H1)
theorem pi_enumA {X : Cx} {e : Expr} {ta : TA} {p pos tpos : Pos} {elts : List Expr} {kk : Nat} (hg : Gl X "enumerate") (hm : X.mg "enumerate" = none) (ha : PA X [e] ta) (hs : starEach [e] X.env = [(false, eval e X.env)]) :
    PI X (.Tuple elts kk tpos) (.Call (.Name "enumerate" p) [e] [] pos) (iEnumA X.kf ta) := by
  refine ⟨fun pins s σ H R I h => ?_⟩
  refine Call_ (ld_blt I hg hm boot_enumerate (PyProof.Rows.callWith_type1 (thn (ha.run pos pins s σ H _ I h) fun us s1 ⟨vs, H1, I1, r1, q1⟩ => ?_) hs rfl))
  obtain ⟨a, xs, ex, q⟩ := q1
  subst ex
  cases r1 with
  | cons r rr =>
    cases rr
    cases r
    have fpb : ∀ b, b ∈ [s1.heap.objs.size + 1, s1.heap.objs.size] → s1.heap.objs.size ≤ b := fun b hb => by
      have e' : b = s1.heap.objs.size + 1 ∨ b = s1.heap.objs.size := by simpa using hb
      rcases e' with z | z
      · rw [z]; exact Nat.le_add_right _ _
      · rw [z]; exact Nat.le_refl _
    rcases q with ⟨hq, q⟩ | ⟨hq, q⟩
    · obtain ⟨its, rv, p', hz⟩ := I1.list hq
      refine call_enumerate_list p'.isList fun h' he hit hsz hk => wpAny_pyIter_enum he ?_
      have I2 : Inv X pins σ H1 { s1 with heap := h' } := I1.kept (t' := s1.toks) hk
      exact ⟨s1.heap.objs.size + 1, [s1.heap.objs.size + 1, s1.heap.objs.size], _, _, H1, rfl, I2, turn_enum a (s1.heap.objs.size + 1) s1.heap.objs.size, ⟨⟨.none, he⟩, hit, Nat.succ_ne_self _⟩, fun b hb => I1.fpOk (fpb b hb) (I1.hok.fresh (fpb b hb)), q⟩
    · obtain ⟨its, rv, p', hz⟩ := I1.tuple hq
      have hal : a < s1.heap.objs.size := by obtain ⟨o, ho, _⟩ := p'; exact Heap.lt_size ho
      refine enum_begins1 (begins_tuple a its.toArray) p' fun h' he ho hsz hk => wpAny_pyIter_enum he ?_
      have I2 : Inv X pins σ H1 { s1 with heap := h' } := I1.kept (t' := s1.toks) hk
      exact ⟨s1.heap.objs.size + 1, [s1.heap.objs.size + 1, s1.heap.objs.size], _, _, H1, rfl, I2, turn_enumT a (s1.heap.objs.size + 1) s1.heap.objs.size, ⟨⟨.none, he⟩, ⟨_, ho, rfl, rfl⟩, Nat.succ_ne_self _, Nat.ne_of_lt hal, Nat.ne_of_lt (Nat.lt_succ_of_lt hal)⟩, fun b hb => I1.fpOk (fpb b hb) (I1.hok.fresh (fpb b hb)), q⟩
def genumA (fs : En → Option (List D)) : En → Option (List D) := fun ρ => (fs ρ).bind fun xs => match xs with
  | [.lst ys] => some (enumD ys)
  | [.tup ys] => some (enumD ys)
  | _ => none
theorem pid_enumA {X : Cx} {a : Expr} {p pos : Pos} {fs : En → Option (List D)} {elts : List Expr} {kk : Nat} {tpos : Pos} (hg : Gl X "enumerate") (hm : X.mg "enumerate" = none) (ha : PA X [a] (tDA X.kf fs)) (hs : starEach [a] X.env = [(false, eval a X.env)]) :
    PI X (.Tuple elts kk tpos) (.Call (.Name "enumerate" p) [a] [] pos) (iD X.kf (genumA fs)) := by
  refine PIi (pi_enumA hg hm ha hs) fun σ H R h => ?_
  obtain ⟨P, F, ρ, ds, vw, e, k⟩ := h
  obtain ⟨xs, ex, e⟩ := bind_some_iff e
  refine ⟨P, F, ρ, xs, vw, ex, fun vs F1 H1 g1 q1 => ?_⟩
  split at e
  · cases e
    obtain ⟨x, rfl, q2⟩ := q1.one
    cases q2 with
    | lst h2 q2 =>
      refine ⟨_, _, rfl, .inl ⟨.of (g1.fh _ _ h2), k _ F1 H1 g1 ⟨fun F2 H2 s1 s2 i hi => ?_, fun F2 H2 s1 s2 => ?_, fun F2 H2 s1 s2 i d x H' hd y => ?_⟩⟩⟩
      · rw [enumD_len] at hi
        obtain ⟨v1, e1, _⟩ := q2.get (List.getElem?_eq_getElem hi)
        exact ⟨_, v1, .of (s2 _ _ (s1 _ _ h2)), e1⟩
      · exact ⟨_, .of (s2 _ _ (s1 _ _ h2)), by rw [enumD_len, q2.length]; exact Nat.le_refl _⟩
      · obtain ⟨T, x1, rfl, hT, rfl, f1⟩ := y
        obtain ⟨d1, z1, rfl⟩ := enumD_get hd
        obtain ⟨v1, w1, p1⟩ := q2.get z1
        have := f1 _ (.of (s2 _ _ (s1 _ _ h2)))
        rw [w1] at this
        cases this
        exact ⟨_, Gr.laid s2 hT, .tup (.of upd_same) (.cons (.int _) (.cons ((p1.same s1).same (Gr.laid s2 hT).ff) .nil))⟩
  · cases e
    obtain ⟨x, rfl, q2⟩ := q1.one
    cases q2 with
    | tup h2 q2 =>
      refine ⟨_, _, rfl, .inr ⟨sqT_same g1.fh h2, k _ F1 H1 g1 ⟨fun F2 H2 s1 s2 i hi => ?_, fun F2 H2 s1 s2 => ?_, fun F2 H2 s1 s2 i d x H' hd y => ?_⟩⟩⟩
      · rw [enumD_len] at hi
        obtain ⟨v1, e1, _⟩ := q2.get (List.getElem?_eq_getElem hi)
        exact ⟨_, v1, sqT_same s2 (sqT_same s1 h2), e1⟩
      · exact ⟨_, sqT_same s2 (sqT_same s1 h2), by rw [enumD_len, q2.length]⟩
      · obtain ⟨T, x1, rfl, hT, rfl, f1⟩ := y
        obtain ⟨d1, z1, rfl⟩ := enumD_get hd
        obtain ⟨v1, w1, p1⟩ := q2.get z1
        have := f1 _ (sqT_same s2 (sqT_same s1 h2))
        rw [w1] at this
        cases this
        exact ⟨_, Gr.laid s2 hT, .tup (.of upd_same) (.cons (.int _) (.cons ((p1.same s1).same (Gr.laid s2 hT).ff) .nil))⟩
  · cases e
/-! ### order, least, greatest: numbers first -/
def ltY : D → D → Option D
  | .int i, .int j => some (.bl (decide (i < j)))
  | a, b => ltX a b
def leY : D → D → Option D
  | .int i, .int j => some (.bl (decide (i ≤ j)))
  | a, b => leX a b
def gtY : D → D → Option D
  | .int i, .int j => some (.bl (decide (j < i)))
  | a, b => gtX a b
def geY : D → D → Option D
  | .int i, .int j => some (.bl (decide (j ≤ i)))
  | a, b => geX a b
section
variable {X : Cx}
theorem od_ltY (hu : X.A.units + 65 < cLine) : OpR X (compareOp .Lt) (r2D X.kf ltY) := by
  intro pins s σ H x y v u Q I rx ry h
  obtain ⟨F, a, b, d, sf, ha, hb, e, k⟩ := h
  unfold ltY at e
  split at e
  · exact od_lt pins s σ H x y v u Q I rx ry ⟨F, _, _, d, sf, ha, hb, e, k⟩
  · exact od_ltX hu pins s σ H x y v u Q I rx ry ⟨F, _, _, d, sf, ha, hb, e, k⟩
theorem od_leY (hu : X.A.units + 65 < cLine) : OpR X (compareOp .LtE) (r2D X.kf leY) := by
  intro pins s σ H x y v u Q I rx ry h
  obtain ⟨F, a, b, d, sf, ha, hb, e, k⟩ := h
  unfold leY at e
  split at e
  · exact od_le pins s σ H x y v u Q I rx ry ⟨F, _, _, d, sf, ha, hb, e, k⟩
  · exact od_leX hu pins s σ H x y v u Q I rx ry ⟨F, _, _, d, sf, ha, hb, e, k⟩
theorem od_gtY (hu : X.A.units + 65 < cLine) : OpR X (compareOp .Gt) (r2D X.kf gtY) := by
  intro pins s σ H x y v u Q I rx ry h
  obtain ⟨F, a, b, d, sf, ha, hb, e, k⟩ := h
  unfold gtY at e
  split at e
  · exact od_gt pins s σ H x y v u Q I rx ry ⟨F, _, _, d, sf, ha, hb, e, k⟩
  · exact od_gtX hu pins s σ H x y v u Q I rx ry ⟨F, _, _, d, sf, ha, hb, e, k⟩
theorem od_geY (hu : X.A.units + 65 < cLine) : OpR X (compareOp .GtE) (r2D X.kf geY) := by
  intro pins s σ H x y v u Q I rx ry h
  obtain ⟨F, a, b, d, sf, ha, hb, e, k⟩ := h
  unfold geY at e
  split at e
  · exact od_ge pins s σ H x y v u Q I rx ry ⟨F, _, _, d, sf, ha, hb, e, k⟩
  · exact od_geX hu pins s σ H x y v u Q I rx ry ⟨F, _, _, d, sf, ha, hb, e, k⟩
def minY : List D → Option D
  | [a] => minX a
  | xs => minD xs
def maxY : List D → Option D
  | [a] => maxX a
  | xs => maxD xs
def sortY : List D → Option D
  | [a] => sortX a
  | _ => none
theorem cd_minY (hc : X.calm = true) (hu : X.A.units + 65 < cLine) : CallR X (.builtin "min") (rsD X.kf minY) := by
  intro pins s σ H xs us Q I r h
  obtain ⟨F, as, d, sf, ha, e, k⟩ := h
  unfold minY at e
  split at e
  · obtain ⟨x, rfl, h1⟩ := ha.one
    exact cd_minX hc hu pins s σ H _ us Q I r ⟨x, F, _, d, rfl, sf, h1, e, k⟩
  · exact cd_min hc pins s σ H _ us Q I r ⟨F, _, d, sf, ha, e, k⟩
theorem cd_maxY (hc : X.calm = true) (hu : X.A.units + 65 < cLine) : CallR X (.builtin "max") (rsD X.kf maxY) := by
  intro pins s σ H xs us Q I r h
  obtain ⟨F, as, d, sf, ha, e, k⟩ := h
  unfold maxY at e
  split at e
  · obtain ⟨x, rfl, h1⟩ := ha.one
    exact cd_maxX hc hu pins s σ H _ us Q I r ⟨x, F, _, d, rfl, sf, h1, e, k⟩
  · exact cd_max hc pins s σ H _ us Q I r ⟨F, _, d, sf, ha, e, k⟩
theorem cd_sortY (hu : X.A.units + 65 < cLine) : CallR X (.builtin "sorted") (rsD X.kf sortY) := by
  intro pins s σ H xs us Q I r h
  obtain ⟨F, as, d, sf, ha, e, k⟩ := h
  unfold sortY at e
  split at e
  · obtain ⟨x, rfl, h1⟩ := ha.one
    exact cd_sort hu pins s σ H _ us Q I r ⟨x, F, _, d, rfl, sf, h1, e, k⟩
  · cases e
end
/-! ### what a dict is told -/
def kEq (a b : D) : Bool := decide (keyD a = keyD b)
def dget (kvs : List (D × D)) (a : D) : Option D := (kvs.find? fun p => kEq p.1 a).map (·.2)
def dput (kvs : List (D × D)) (a v : D) : List (D × D) := if (dget kvs a).isSome then kvs.map fun p => if kEq p.1 a then (p.1, v) else p else kvs ++ [(a, v)]
theorem keyL_vals {K : Kf} {F : Hp} : ∀ {xs : List D} {ks : List Key} {vs : List V}, keyL xs = some ks → Das K F vs xs → vs = ks.map kV
  | [], ks, vs, e, q => by
    cases q
    cases e
    rfl
  | x :: xs, ks, vs, e, q => by
    cases q with
    | cons q qs =>
      unfold keyL at e
      obtain ⟨k, ek, e⟩ := bind_some_iff e
      obtain ⟨ks', eks, e⟩ := bind_some_iff e
      cases e
      rw [keyL_vals eks qs]
      cases x with
      | int i => cases q; cases ek; rfl
      | str l => cases q; cases ek; rfl
      | _ => cases ek
section
variable {X : Cx} {pins : List (Addr × Obj)} {σ : St} {F H : Hp} {s : Shared}
/-- a datum's tuple is a key -/
theorem key_at {d : D} {k : List Key} {v : V} (I : Inv X pins σ H s) (sf : Same F H) (q : Da X.kf F v d) (e : keyD d = some k) : ∃ b, v = .ref b ∧ (tupleKind (mixKind X.prog X.w)).is s.heap k b := by
  cases d with
  | tup xs =>
    cases q with
    | tup h1 q1 =>
      obtain ⟨its, r, ⟨o, h2, h3, n, h4⟩, _⟩ := I.tuple (sqT_same sf h1)
      refine ⟨_, rfl, o, its.toArray, n, h2, h3, h4, ?_⟩
      have := keyL_vals e q1
      subst this
      simpa using items_are r
  | _ => cases e
abbrev XY : DX0 → List (List Key × Addr × Value) → Prop := Paired fun x y => x.1 = y.1 ∧ x.2.1 = y.2.1 ∧ RelV x.2.2 y.2.2
theorem dict_at {a : Addr} {xs : DX} {kvs : List (D × D)} (I : Inv X pins σ H s) (sf : Same F H) (h : H a = some (dHO X.kf a xs)) (q : Dks X.kf F xs kvs) :
    (a == sysModules) = false ∧ xs.it.length ≤ sizeLine ∧ ∃ ys, XY xs.it ys ∧ s.heap.DictOfH (tupleKind (mixKind X.prog X.w)) a ys := by
  obtain ⟨⟨h4, h1, h2, ys, h3, es, ep, h5, h6, h7, h8⟩, _⟩ := (show ObjOk X.prog X.w H s.heap a (dHO X.kf a xs) from I.hok a _ h)
  refine ⟨h1, h2, ys, h3, xs.ob, es, ep, h4, h5, h6, h7, fun x hx => ?_, h8⟩
  have all : ∀ {l : DX0} {m : List (List Key × Addr × Value)} {kv : List (D × D)}, XY l m → Dk0 X.kf F l kv → ∀ x ∈ m, (tupleKind (mixKind X.prog X.w)).is s.heap x.1 x.2.1 := by
    intro l m kv r
    induction r generalizing kv with
    | nil => intro _ x hx; exact nomatch hx
    | @cons p q ps qs hq t ih =>
      intro dk x hx
      cases dk with
      | cons dd dt =>
        rcases List.mem_cons.mp hx with e | hx
        · subst e
          obtain ⟨b, eb, kb⟩ := key_at I sf dd.2.1 dd.1
          cases eb
          rw [← hq.1, ← hq.2.1]
          exact kb
        · exact ih dt x hx
  exact all h3 q x hx
theorem xy_val {K : Kf} {k : List Key} {a : D} (ha : keyD a = some k) : ∀ {xs : DX0} {ys : List (List Key × Addr × Value)} {kvs : List (D × D)}, XY xs ys → Dk0 K F xs kvs →
    (dget kvs a = none ∧ atKey ys k = none) ∨ ∃ d v p, dget kvs a = some d ∧ atKey ys k = some p ∧ RelV v p.2 ∧ Da K F v d
  | [], _, _, .nil, .nil => .inl ⟨rfl, rfl⟩
  | x :: xs, _, _, .cons hx tx, .cons (b := kv) dx dt => by
    by_cases e : x.1 = k
    · have e1 : kEq kv.1 a = true := by unfold kEq; rw [dx.1, ha, e]; exact decide_eq_true rfl
      refine .inr ⟨kv.2, x.2.2, _, by unfold dget; rw [List.find?_cons, e1]; rfl, ?_, hx.2.2, dx.2.2⟩
      unfold atKey
      rw [List.find?_cons]
      simp only [← hx.1, e, decide_true]
      rfl
    · have e1 : kEq kv.1 a = false := by unfold kEq; rw [dx.1, ha]; exact decide_eq_false fun z => e (Option.some.inj z)
      rcases xy_val ha tx dt with ⟨h1, h2⟩ | ⟨d, v, p, h1, h2, h3, h4⟩
      · refine .inl ⟨by unfold dget; rw [List.find?_cons, e1]; exact h1, ?_⟩
        unfold atKey
        rw [List.find?_cons]
        simp only [← hx.1, e, decide_false]
        exact h2
      · refine .inr ⟨d, v, p, by unfold dget; rw [List.find?_cons, e1]; exact h1, ?_, h3, h4⟩
        unfold atKey
        rw [List.find?_cons]
        simp only [← hx.1, e, decide_false]
        exact h2
theorem xy_repl {K : Kf} {k : List Key} {a d : D} {v : V} {u : Value} (ha : keyD a = some k) (hv : Da K F v d) (ru : RelV v u) : ∀ {xs : DX0} {ys : List (List Key × Addr × Value)} {kvs : List (D × D)}, XY xs ys → Dk0 K F xs kvs →
    XY (xs.map fun x => if x.1 = k then (x.1, x.2.1, v) else x) (ys.map (putAt k u)) ∧ Dk0 K F (xs.map fun x => if x.1 = k then (x.1, x.2.1, v) else x) (kvs.map fun p => if kEq p.1 a then (p.1, d) else p)
  | [], _, _, .nil, .nil => ⟨.nil, .nil⟩
  | x :: xs, _, _, .cons hx tx, .cons (b := kv) dx dt => by
    obtain ⟨i1, i2⟩ := xy_repl ha hv ru tx dt
    rw [List.map_cons, List.map_cons, List.map_cons]
    by_cases e : x.1 = k
    · have e1 : kEq kv.1 a = true := by unfold kEq; rw [dx.1, ha, e]; exact decide_eq_true rfl
      rw [if_pos e, if_pos e1]
      refine ⟨.cons ?_ i1, .cons ⟨dx.1, dx.2.1, hv⟩ i2⟩
      unfold putAt
      rw [if_pos (hx.1.symm.trans e)]
      exact ⟨hx.1, hx.2.1, ru⟩
    · have e1 : ¬ kEq kv.1 a = true := by unfold kEq; rw [dx.1, ha, decide_eq_true_eq]; exact fun z => e (Option.some.inj z)
      rw [if_neg e, if_neg e1]
      refine ⟨.cons ?_ i1, .cons dx i2⟩
      unfold putAt
      rw [if_neg (fun z => e (hx.1.trans z))]
      exact hx
theorem xy_put {K : Kf} {k : List Key} {a d : D} {v : V} {u : Value} {b : Addr} {xs : DX0} {ys : List (List Key × Addr × Value)} {kvs : List (D × D)} (ha : keyD a = some k) (hb : Da K F (.ref b) a) (hv : Da K F v d) (ru : RelV v u) (r : XY xs ys) (q : Dk0 K F xs kvs) :
    ∃ xs', XY xs' (storedH ys k b u) ∧ Dk0 K F xs' (dput kvs a d) ∧ xs'.length ≤ xs.length + 1 := by
  unfold storedH dput
  rcases xy_val ha r q with ⟨h1, h2⟩ | ⟨d', v', p, h1, h2, _, _⟩
  · rw [h1, h2]
    refine ⟨xs ++ [(k, b, v)], Paired.snoc r ⟨rfl, rfl, ru⟩, Paired.snoc q ⟨ha, hb, hv⟩, by simp⟩
  · rw [h1, h2]
    obtain ⟨i1, i2⟩ := xy_repl ha hv ru r q
    exact ⟨_, i1, i2, by simp⟩
theorem dHO_ok {a : Addr} {h' : Heap} {xs : DX0} {ys : List (List Key × Addr × Value)} (hm : (a == sysModules) = false) (hz : xs.length ≤ sizeLine) (r : XY xs ys) (dd : h'.DictOfH (tupleKind (mixKind X.prog X.w)) a ys) : ∃ o, h'.get? a = some o ∧ ∀ H' : Hp, ObjOk X.prog X.w H' h' a (dHO X.kf a ⟨o, xs⟩) := by
  obtain ⟨o, es, ep, h1, h2, h3, h4, _, h5⟩ := dd
  refine ⟨o, h1, fun H' => ⟨⟨h1, hm, hz, ys, r, es, ep, h2, h3, h4, h5⟩, ⟨o, h1⟩, fun g1 g2 p k => ?_⟩⟩
  exact ⟨k _ p.1, p.2⟩
/-- a[y] = v -/
theorem dx_set {A : Around} {E : Value → Shared → Prop} {Q : Unit → Shared → Prop} {a : Addr} {y z : D} {vy vz : V} {u r : Value} {xs : DX} {kvs : List (D × D)} {k : List Key} (hu : A.units + 1 < cLine) (I : Inv X pins σ H s) (sf : Same F H) (hF : F a = none)
    (h : H a = some (dHO X.kf a xs)) (q : Dks X.kf F xs kvs) (hk : keyD y = some k) (hl : kvs.length < sizeLine) (hy : Da X.kf F vy y) (hz : Da X.kf F vz z) (ry : RelV vy u) (rz : RelV vz r)
    (fin : ∀ s' xs', Inv X pins σ (upd H a (dHO X.kf a xs')) s' → Dks X.kf F xs' (dput kvs y z) → Q () s') : wpAny (model X.prog X.w) A (setItem (.ref a) u r) Q E s := by
  obtain ⟨b, rfl, kb⟩ := key_at I sf hy hk
  cases (show u = Value.ref b from ry)
  obtain ⟨hm, hsz, ys, rel, dd⟩ := dict_at I sf h q
  have hlen : xs.it.length = kvs.length := Paired.length q
  have hz' : ys.length ≤ sizeLine := by rw [← Paired.length rel]; exact hsz
  refine wpAny_setItem_heap (hsz := hz') (tupleKind_room_in1 hu) kb dd fun h' dd' hs => ?_
  obtain ⟨xs', r1, r2, r3⟩ := xy_put hk hy hz rz rel q
  obtain ⟨o, hq, new⟩ := dHO_ok hm (by omega) r1 dd'
  exact fin _ ⟨o, xs'⟩ (d_write I (by rw [h]; exact True.intro) hs ⟨o, hq⟩ (new _)) r2
theorem dx_notIn {A : Around} {E : Value → Shared → Prop} {Q : Value → Shared → Prop} {a : Addr} {y : D} {vy : V} {u : Value} {xs : DX} {kvs : List (D × D)} {k : List Key} (hu : A.units + 1 < cLine) (I : Inv X pins σ H s) (sf : Same F H)
    (h : H a = some (dHO X.kf a xs)) (q : Dks X.kf F xs kvs) (hk : keyD y = some k) (hy : Da X.kf F vy y) (ry : RelV vy u) (fin : ∀ s', Inv X pins σ H s' → Q (.bool (!(dget kvs y).isSome)) s') : wpAny (model X.prog X.w) A (compareOp .NotIn u (.ref a)) Q E s := by
  obtain ⟨b, rfl, kb⟩ := key_at I sf hy hk
  cases (show u = Value.ref b from ry)
  obtain ⟨hm, hsz, ys, rel, dd⟩ := dict_at I sf h q
  refine wpAny_notIn_heap (tupleKind_room_in1 hu) kb hm dd ?_
  rcases xy_val hk rel q with ⟨h1, h2⟩ | ⟨d', v', p, h1, h2, _, _⟩
  · rw [h2]
    rw [h1] at fin
    exact fin _ (I.tok _)
  · rw [h2]
    rw [h1] at fin
    exact fin _ (I.tok _)
theorem dx_get {A : Around} {E : Value → Shared → Prop} {Q : Value → Shared → Prop} {a : Addr} {y z : D} {vy vz : V} {u r : Value} {xs : DX} {kvs : List (D × D)} {k : List Key} (hu : A.units + 1 < cLine) (I : Inv X pins σ H s) (sf : Same F H)
    (h : H a = some (dHO X.kf a xs)) (q : Dks X.kf F xs kvs) (hk : keyD y = some k) (hy : Da X.kf F vy y) (hz : Da X.kf F vz z) (ry : RelV vy u) (rz : RelV vz r) (fin : ∀ w' v s', Inv X pins σ H s' → RelV v w' → Da X.kf F v ((dget kvs y).getD z) → Q w' s') :
    wpAny (model X.prog X.w) A (call (.builtin "dict.get") [.ref a, u, r]) Q E s := by
  obtain ⟨b, rfl, kb⟩ := key_at I sf hy hk
  cases (show u = Value.ref b from ry)
  obtain ⟨hm, hsz, ys, rel, dd⟩ := dict_at I sf h q
  refine call_meetsIn PySem.F.slot_dict_get dd.typeIs PySem.F.entry_dict_get (PySem.F.args_dict_get_3 _ _ _) (meetsH_dict_get_default (tupleKind (mixKind X.prog X.w)) a b hm r) ⟨tupleKind_room_in1 hu, k, ys, kb, dd, ?_⟩
  rcases xy_val hk rel q with ⟨h1, h2⟩ | ⟨d', v', p, h1, h2, h3, h4⟩
  · rw [h2]
    exact fin _ vz _ (I.tok _) rz (by rw [h1]; exact hz)
  · rw [h2]
    exact fin _ v' _ (I.tok _) h3 (by rw [h1]; exact h4)
theorem dx_at {A : Around} {E : Value → Shared → Prop} {Q : Value → Shared → Prop} {a : Addr} {y z : D} {vy : V} {u : Value} {xs : DX} {kvs : List (D × D)} {k : List Key} (hu : A.units + 1 < cLine) (I : Inv X pins σ H s) (sf : Same F H)
    (h : H a = some (dHO X.kf a xs)) (q : Dks X.kf F xs kvs) (hk : keyD y = some k) (hy : Da X.kf F vy y) (ry : RelV vy u) (hz : dget kvs y = some z) (fin : ∀ w' v s', Inv X pins σ H s' → RelV v w' → Da X.kf F v z → Q w' s') :
    wpAny (model X.prog X.w) A (getItem (.ref a) u) Q E s := by
  obtain ⟨b, rfl, kb⟩ := key_at I sf hy hk
  cases (show u = Value.ref b from ry)
  obtain ⟨hm, hsz, ys, rel, dd⟩ := dict_at I sf h q
  rcases xy_val hk rel q with ⟨h1, h2⟩ | ⟨d', v', p, h1, h2, h3, h4⟩
  · rw [h1] at hz
    cases hz
  · rw [h1] at hz
    cases hz
    exact wpAny_getItem_heap (tupleKind_room_in1 hu) kb dd h2 (fin _ v' _ (I.tok _) h3 h4)
end
/-! ### own dicts: made, told, asked -/
theorem Sg.setNewO {K : Kf} {W : Wd} {F H F' H' : Hp} {σ : St} {ρ : En} {i : Nat} {s' : Sl} {a : Addr} {ho : HO} (h : Sg K W F H σ ρ) (g : Gr F H F' H') (hn : H a = none) (e : H' a = some ho) (hf : F' a = none) (hs : s'.own = true) (q : OO K F' a ho s') : Sg K W F' H' (σ.set i (some (.ref a))) (ρ.set i s') := by
  refine ⟨h.ok.grow g, h.vw.setNewO g hn e hf ?_ hs q⟩
  cases z : W.H0 a with
  | none => exact z
  | some u => exact absurd hn (h.ok.live a (by rw [z]; exact fun w => nomatch w))
theorem Sg.mutO {K : Kf} {W : Wd} {F H : Hp} {σ : St} {ρ : En} {i : Nat} {s0 s' : Sl} {a : Addr} {ho : HO} (h : Sg K W F H σ ρ) (e : ρ[i]? = some s0) (hs0 : s0.own = true) (es : σ[i]? = some (some (.ref a))) (hs : s'.own = true) (q : OO K F a ho s') : Sg K W F (upd H a ho) σ (ρ.set i s') := by
  obtain ⟨b, ws, e1, e2, e3, e4, e5⟩ := h.vw.getO e hs0
  rw [es] at e1
  cases e1
  refine ⟨⟨fun b o hb z => ?_, fun b hb => ?_, h.ok.up, h.ok.new⟩, h.vw.mutO e hs0 es hs q⟩
  · have : b ≠ a := fun w => by
      have e4' : W.H0 a = none := e4
      rw [w, e4'] at z
      cases z
    rw [upd_ne this]
    exact h.ok.same b o hb z
  · by_cases w : b = a
    · subst w
      rw [upd_same]
      exact fun z => nomatch z
    · rw [upd_ne w]
      exact h.ok.live b hb
theorem Sg.frzM {K : Kf} {W : Wd} {F H : Hp} {σ : St} {ρ : En} {i : Nat} {kvs : List (D × D)} (h : Sg K W F H σ ρ) (e : ρ[i]? = some (.m kvs)) : ∃ F', Sg K W F' H σ (ρ.set i (.f kvs)) := by
  obtain ⟨a, vs, e1, e2, e3, e4⟩ := h.vw.frzM e
  refine ⟨_, ⟨h.ok.same, h.ok.live, h.ok.up.trans (same_upd e2), fun b o z => ?_⟩, e4⟩
  by_cases w : b = a
  · rw [w]
    exact .inr e3
  · rw [upd_ne w] at z
    exact h.ok.new b o z
section
variable {X : Cx} {pos : Pos} {e b : Expr} {fe fb : En → Option D}
def newD : Obj := { cls := .type "dict", data := .dict #[] }
theorem pe_dnewX : PE X (.Dict [] [] pos) (fun _ H Q => ∀ p, H p = none → Q (.ref p) (upd H p (dHO X.kf p ⟨newD, []⟩))) := ⟨fun pins s σ H Q I h => by
  refine wpAny_Dict_empty ⟨.ref s.heap.objs.size, _, I.laid (a := s.heap.objs.size) (o := dHO X.kf s.heap.objs.size ⟨newD, []⟩) (t' := s.toks) (fun _ _ q => Heap.get?_push_of_some _ q) (Nat.le_refl _) ?_, rfl, h _ (I.hok.fresh (Nat.le_refl _))⟩
  have hg : (s.heap.push { cls := .type "dict", data := .dict #[] }).get? s.heap.objs.size = some newD := Heap.get?_push_size _ rfl
  exact ⟨⟨hg, beq_eq_false_iff_ne.mpr (Ne.symm (Nat.ne_of_lt I.big)), Nat.zero_le _, [], .nil, #[], 0, ⟨rfl, rfl, rfl⟩, rfl, rfl, List.nodup_nil⟩, ⟨_, hg⟩, fun g1 g2 p k => ⟨k _ p.1, p.2⟩⟩⟩
def gsetM (i : Nat) : En → Option Res := fun ρ => some (.nx (ρ.set i (.m [])))
theorem psd_setM {i : Nat} {x : Str} {pos' p2 : Pos} (hN : X.N.Nodup) (hi : X.N[i]? = some x) (hx : Loc X.env.scope x) (hs : swapsWith (.Dict [] [] p2) (some (.Name x pos')) pos.line X.env = pure false) (hf : X.fn x = true ∨ X.env.scope.names.lookup x = some .local) :
    PS X (.Assign [.Name x pos'] (.Dict [] [] p2) pos) (sD X.kf (gsetM i)) := PSi (ps_set hN hi hx pe_dnewX hs hf) fun E σ H h => by
  obtain ⟨W, F, ρ, r, sg, e, k⟩ := h
  cases e
  exact fun p hp => k _ F _ (sg.setNewO (Gr.side sg.vw.sub hp) hp upd_same (sg.vw.sub.free hp) rfl ⟨⟨newD, []⟩, rfl, .nil⟩)
/-- x[a] = v -/
def gput (i : Nat) (fa fv : En → Option D) : En → Option Res := fun ρ => match ρ[i]? with
  | some (.m kvs) => (fv ρ).bind fun v => (fa ρ).bind fun a => if (keyD a).isSome && decide (kvs.length < sizeLine) then some (.nx (ρ.set i (.m (dput kvs a v)))) else none
  | _ => none
theorem psd_put {i : Nat} {x : Str} {p pos' : Pos} (hu : X.A.units + 65 < cLine) (hN : X.N[i]? = some x) (hv : Vis X.env.scope x) (hd : (x == ("__debug__" : Str)) = false) (hcd : (x == ("__classdict__" : Str)) = false) (ha : PE X e (tD X.kf fe)) (hb : PE X b (tD X.kf fb)) (hs : swapsWith b (some (.Subscript (.Name x p) e pos')) pos.line X.env = pure false) :
    PS X (.Assign [.Subscript (.Name x p) e pos'] b pos) (sD X.kf (gput i fe fb)) := by
  refine ⟨fun pins s σ H E I h => ?_⟩
  obtain ⟨W, F, ρ, r, sg, e0, k⟩ := h
  unfold gput at e0
  split at e0
  · rename_i kvs ekv
    obtain ⟨dv, edv, e0⟩ := bind_some_iff e0
    obtain ⟨da, eda, e0⟩ := bind_some_iff e0
    split at e0
    · rename_i hc
      rw [Bool.and_eq_true, decide_eq_true_eq, Option.isSome_iff_exists] at hc
      obtain ⟨⟨kk, hk⟩, hl⟩ := hc
      cases e0
      obtain ⟨a, xs, es, e1, e2, e3, e4⟩ := sg.vw.getM ekv
      refine wpAny_Assign_Subscript (thn (hb.run pins s σ H (fun v H1 => ∃ F1, Gr F H F1 H1 ∧ Da X.kf F1 v dv) I ⟨_, F, ρ, dv, sg.vw, edv, fun v F1 H1 g1 q1 => ⟨F1, g1, q1⟩⟩) fun r s1 ⟨v, H1, I1, rv, F1, g1, q1⟩ =>
        thn ((pe_var (i := i) hN hv hd hcd).run pins s1 σ H1 (fun v H2 => v = .ref a ∧ H2 = H1) I1 ⟨_, es, rfl, rfl⟩) fun u s2 ⟨x2, H2, I2, rx, ex, eh⟩ => ?_) hs
      subst ex eh
      obtain rfl : u = Value.ref a := rx
      refine thn (ha.run pins s2 σ H2 (fun v H3 => ∃ F3, Gr F1 H2 F3 H3 ∧ Da X.kf F3 v da) I2 ⟨_, F1, ρ, da, sg.vw.grow g1, eda, fun v F3 H3 g3 q3 => ⟨F3, g3, q3⟩⟩) fun iv s3 ⟨y, H3, I3, ry, F3, g3, q3⟩ => ?_
      have g := g1.trans g3
      have sg3 := sg.grow g
      obtain ⟨a', xs', es', e1', e2', e3', e4'⟩ := sg3.vw.getM ekv
      rw [es] at es'
      cases es'
      exact dx_set (by omega) I3 g.fh e2' e1' e4' hk hl q3 (q1.same g3.ff) ry rv fun s4 xs4 I4 d4 => ⟨σ, _, I4, k σ F3 _ (sg3.mutO ekv rfl es rfl ⟨xs4, rfl, d4⟩)⟩
    · cases e0
  · cases e0
end
/-! ### what the dict of a slot is asked -/
def gdi (i : Nat) : En → Option (List (D × D)) := fun ρ => match ρ[i]? with
  | some (.m kvs) => some kvs
  | some (.f kvs) => some kvs
  | _ => none
theorem Vw.getD {K : Kf} {P : Addr → Prop} {F H : Hp} {σ : St} {ρ : En} {i : Nat} {kvs : List (D × D)} (h : Vw K P F H σ ρ) (e : gdi i ρ = some kvs) : ∃ a xs, σ[i]? = some (some (.ref a)) ∧ H a = some (dHO K a xs) ∧ Dks K F xs kvs := by
  unfold gdi at e
  split at e
  · cases e
    obtain ⟨a, xs, e1, e2, e3, e4, e5⟩ := h.getM (by assumption)
    exact ⟨a, xs, e1, e2, e5⟩
  · cases e
    obtain ⟨a, xs, e1, e2, e3⟩ := h.getF (by assumption)
    exact ⟨a, xs, e1, h.sub _ _ e2, e3⟩
  · cases e
section
variable {X : Cx} {pos p ap cp : Pos} {e b : Expr} {fe fb : En → Option D} {i : Nat} {x : Str}
def gmnin (i : Nat) (fa : En → Option D) : En → Option D := fun ρ => (gdi i ρ).bind fun kvs => (fa ρ).bind fun a => if (keyD a).isSome then some (.bl (!(dget kvs a).isSome)) else none
theorem pc_mnin (hu : X.A.units + 65 < cLine) (hN : X.N[i]? = some x) (hv : Vis X.env.scope x) (hd : (x == ("__debug__" : Str)) = false) (hcd : (x == ("__classdict__" : Str)) = false) (ha : PE X e (tD X.kf fe)) : PC X .NotIn e (.Name x p) (tD X.kf (gmnin i fe)) := by
  refine ⟨fun pins s σ H Q I h => ?_⟩
  obtain ⟨P, F, ρ, d, vw, e0, k⟩ := h
  obtain ⟨kvs, ek, e0⟩ := bind_some_iff e0
  obtain ⟨da, eda, e0⟩ := bind_some_iff e0
  split at e0
  · rename_i hc
    obtain ⟨kk, hk⟩ := Option.isSome_iff_exists.mp hc
    cases e0
    refine thn (ha.run pins s σ H (fun v H1 => ∃ F1, Gr F H F1 H1 ∧ Da X.kf F1 v da) I ⟨_, F, ρ, da, vw, eda, fun v F1 H1 g1 q1 => ⟨F1, g1, q1⟩⟩) fun r s1 ⟨v, H1, I1, rv, F1, g1, q1⟩ => ?_
    obtain ⟨a, xs, es, e1, e2⟩ := (vw.grow g1).getD ek
    refine thn ((pe_var (i := i) hN hv hd hcd).run pins s1 σ H1 (fun v H2 => v = .ref a ∧ H2 = H1) I1 ⟨_, es, rfl, rfl⟩) fun u s2 ⟨x2, H2, I2, rx, ex, eh⟩ => ?_
    subst ex eh
    obtain rfl : u = Value.ref a := rx
    exact dx_notIn (by omega) I2 g1.fh e1 e2 hk q1 rv fun s' I' => ⟨.bl _, H2, I', rfl, k _ F1 H2 g1 (.bl _)⟩
  · cases e0
theorem pd_mnin {tb : Prop} (hu : X.A.units + 65 < cLine) (hN : X.N[i]? = some x) (hv : Vis X.env.scope x) (hd : (x == ("__debug__" : Str)) = false) (hcd : (x == ("__classdict__" : Str)) = false) (ha : PE X e (tD X.kf fe)) :
    PE X (.Compare e [.NotIn] [.Name x p] pos) (tD X.kf (gmnin i fe)) := L2.pe_cmp (pc_mnin hu hN hv hd hcd ha) rfl
theorem pdt_mnin (hu : X.A.units + 65 < cLine) (hN : X.N[i]? = some x) (hv : Vis X.env.scope x) (hd : (x == ("__debug__" : Str)) = false) (hcd : (x == ("__classdict__" : Str)) = false) (ha : PE X e (tD X.kf fe)) :
    PT X (.Compare e [.NotIn] [.Name x p] pos) (tDT X.kf (ft (gmnin i fe))) := by
  refine PTi (L2.pt_cmp (pc_mnin hu hN hv hd hcd ha) rfl) fun σ H Q h => ?_
  obtain ⟨P, F, ρ, d, vw, e, k⟩ := h
  obtain ⟨y, ey, e⟩ := bind_some_iff e
  have hy : ∃ c, y = .bl c := by
    have ey' := ey
    obtain ⟨kvs, ek, ey'⟩ := bind_some_iff ey'
    obtain ⟨da, eda, ey'⟩ := bind_some_iff ey'
    split at ey'
    · cases ey'; exact ⟨_, rfl⟩
    · cases ey'
  obtain ⟨c, rfl⟩ := hy
  cases e
  refine ⟨P, F, ρ, _, vw, ey, fun v F1 H1 g1 q1 => ?_⟩
  cases q1
  exact ⟨_, rfl, k F1 H1 g1⟩
/-- x.get(a, b) -/
def gmget (i : Nat) (fa fb : En → Option D) : En → Option D := fun ρ => (gdi i ρ).bind fun kvs => (fa ρ).bind fun a => (fb ρ).bind fun z => if (keyD a).isSome then some ((dget kvs a).getD z) else none
theorem pd_mget (hu : X.A.units + 65 < cLine) (hN : X.N[i]? = some x) (hv : Vis X.env.scope x) (hd : (x == ("__debug__" : Str)) = false) (hcd : (x == ("__classdict__" : Str)) = false) (ha : PE X e (tD X.kf fe)) (hb : PE X b (tD X.kf fb)) (m : L2.M2 X (.Name x p) "get" ap e b cp) :
    PE X (.Call (.Attribute (.Name x p) "get" ap) [e, b] [] cp) (tD X.kf (gmget i fe fb)) := by
  refine ⟨fun pins s σ H Q I h => ?_⟩
  obtain ⟨P, F, ρ, d, vw, e0, k⟩ := h
  obtain ⟨kvs, ek, e0⟩ := bind_some_iff e0
  obtain ⟨da, eda, e0⟩ := bind_some_iff e0
  obtain ⟨db, edb, e0⟩ := bind_some_iff e0
  split at e0
  · rename_i hc
    obtain ⟨kk, hk⟩ := Option.isSome_iff_exists.mp hc
    cases e0
    obtain ⟨a, xs, es, e1, e2⟩ := vw.getD ek
    refine wpAny_Call_method m.base m.few m.line PySem.F.plainAttrs_dict PySem.F.slot_dict_get PySem.F.type_dict_get (thn ((pe_var (i := i) hN hv hd hcd).run pins s σ H (fun v H2 => v = .ref a ∧ H2 = H) I ⟨_, es, rfl, rfl⟩) fun u s1 ⟨x2, H1, I1, rx, ex, eh⟩ => ?_)
    subst ex eh
    obtain rfl : u = Value.ref a := rx
    obtain ⟨_, _, ys, _, dd⟩ := dict_at I1 vw.sub e1 e2
    refine ⟨dd.typeIs, fun b' q => ?_, ?_⟩
    · cases q
      obtain ⟨ob, _, _, h1, h2, _⟩ := dd
      exact ⟨ob, h1, h2.2.1⟩
    rw [m.trees]
    refine Calls.callWith_builtin rfl (Calls.evalArgs_plain (Calls.spliced_cons (thn (ha.run pins s1 σ H1 (fun v H2 => ∃ F2, Gr F H1 F2 H2 ∧ Da X.kf F2 v da) I1 ⟨_, F, ρ, da, vw, eda, fun v F1 H1 g1 q1 => ⟨F1, g1, q1⟩⟩) fun ia s2 ⟨va, H2, I2, ra, F2, g2, q2⟩ =>
      Calls.spliced_cons (thn (hb.run pins s2 σ H2 (fun v H3 => ∃ F3, Gr F2 H2 F3 H3 ∧ Da X.kf F3 v db) I2 ⟨_, F2, ρ, db, vw.grow g2, edb, fun v F1 H1 g1 q1 => ⟨F1, g1, q1⟩⟩) fun ib s3 ⟨vb, H3, I3, rb, F3, g3, q3⟩ => Calls.spliced_nil ?_))))
    have g := g2.trans g3
    exact dx_get (F := F3) (by omega) I3 g.fh (g.hh _ _ e1) (e2.same g.ff) hk (q2.same g3.ff) q3 ra rb fun w' v s4 I4 rw' dv => ⟨v, H3, I4, rw', k v F3 H3 g dv⟩
  · cases e0
/-- x[a] -/
def gmat (i : Nat) (fa : En → Option D) : En → Option D := fun ρ => (gdi i ρ).bind fun kvs => (fa ρ).bind fun a => if (keyD a).isSome then dget kvs a else none
theorem pd_mat (hu : X.A.units + 65 < cLine) (hN : X.N[i]? = some x) (hv : Vis X.env.scope x) (hd : (x == ("__debug__" : Str)) = false) (hcd : (x == ("__classdict__" : Str)) = false) (ha : PE X e (tD X.kf fe)) (hs : PlainIx e) : PE X (.Subscript (.Name x p) e pos) (tD X.kf (gmat i fe)) := by
  refine ⟨fun pins s σ H Q I h => ?_⟩
  obtain ⟨P, F, ρ, d, vw, e0, k⟩ := h
  obtain ⟨kvs, ek, e0⟩ := bind_some_iff e0
  obtain ⟨da, eda, e0⟩ := bind_some_iff e0
  split at e0
  · rename_i hc
    obtain ⟨kk, hk⟩ := Option.isSome_iff_exists.mp hc
    obtain ⟨a, xs, es, e1, e2⟩ := vw.getD ek
    refine subD_of PySem.F.slot_dict_getitem.lookup hs (thn ((pe_var (i := i) hN hv hd hcd).run pins s σ H (fun v H2 => v = .ref a ∧ H2 = H) I ⟨_, es, rfl, rfl⟩) fun u s1 ⟨x2, H1, I1, rx, ex, eh⟩ => ?_)
    subst ex eh
    obtain rfl : u = Value.ref a := rx
    refine thn (ha.run pins s1 σ H1 (fun v H2 => ∃ F2, Gr F H1 F2 H2 ∧ Da X.kf F2 v da) I1 ⟨_, F, ρ, da, vw, eda, fun v F1 H1 g1 q1 => ⟨F1, g1, q1⟩⟩) fun ia s2 ⟨va, H2, I2, ra, F2, g2, q2⟩ => ?_
    obtain ⟨_, _, ys, _, dd⟩ := dict_at I2 g2.fh (g2.hh _ _ e1) (e2.same g2.ff)
    exact ⟨dd.typeIs, dx_at (F := F2) (by omega) I2 g2.fh (g2.hh _ _ e1) (e2.same g2.ff) hk q2 ra e0 fun w' v s4 I4 rw' dv => ⟨v, H2, I4, rw', k v F2 H2 g2 dv⟩⟩
  · cases e0

/-! ### while x: body, x the def's own list -/
def gwhl (i : Nat) (gb : En → Option Res) : Nat → En → Option Res
  | 0, _ => none
  | n + 1, ρ => match ρ[i]? with
    | some (.l []) => some (.nx ρ)
    | some (.l (_ :: _)) => (gb ρ).bind fun r => match r with
      | .nx ρ' => gwhl i gb n ρ'
      | .rt d => some (.rt d)
    | _ => none
theorem psd_whl {body : List Stmt} {gb : En → Option Res} {fuel : Nat} (hp : PassesOwn (model X.prog X.w) X.A X.env X.xe) (hN : X.N[i]? = some x) (hv : Vis X.env.scope x) (hd : (x == ("__debug__" : Str)) = false) (hcd : (x == ("__classdict__" : Str)) = false) (hb : PSs X body (sD X.kf gb)) :
    PS X (.While (.Name x p) body [] pos) (sD X.kf (gwhl i gb fuel)) := PSi (ps_while hp (pt_truth (pe_var (i := i) hN hv hd hcd) fun _ => rfl) hb) fun E σ H h => by
  obtain ⟨W, F, ρ, r, sg, e, k⟩ := h
  refine ⟨fun m σ H => ∃ F' ρ', Sg X.kf W F' H σ ρ' ∧ gwhl i gb m ρ' = some r, ⟨fuel, F, ρ, sg, e⟩, fun m σ2 H2 hW => ?_⟩
  obtain ⟨F2, ρ2, sg2, e2⟩ := hW
  cases m with
  | zero => cases e2
  | succ m =>
    unfold gwhl at e2
    split at e2
    · rename_i exs
      cases e2
      obtain ⟨a, vs, es, e1, e3, e4, e5⟩ := sg2.vw.getL exs
      cases e5
      exact ⟨_, es, false, .inl ⟨[], .of e1, rfl⟩, k σ2 F2 H2 sg2⟩
    · rename_i x0 xs0 exs
      obtain ⟨a, vs, es, e1, e3, e4, e5⟩ := sg2.vw.getL exs
      obtain ⟨r4, e6, e2⟩ := bind_some_iff e2
      have hne : vs.isEmpty = false := by cases e5; rfl
      refine ⟨_, es, true, .inl ⟨vs, .of e1, by rw [hne]; rfl⟩, ?_⟩
      show if (true : Bool) = true then _ else _
      rw [if_pos rfl]
      refine ⟨fun σ' H' => ∃ F' ρ', Sg X.kf W F' H' σ' ρ' ∧ gwhl i gb m ρ' = some r, fun σ' H' hN => ⟨m, Nat.lt_succ_self _, hN⟩, W, F2, ρ2, r4, sg2, e6, ?_⟩
      cases r4 with
      | nx ρ4 => exact fun σ4 F4 H4 sg4 => ⟨F4, ρ4, sg4, e2⟩
      | rt d =>
        cases e2
        exact fun v F4 H4 o => k v F4 H4 o
    · cases e2
end
/-! ### pops -/
section
variable {X : Cx} {pos p ap cp : Pos} {e : Expr} {fe : En → Option D} {i : Nat} {x : Str}
/-- t = x.pop(0) -/
def gpop0 (t : Tg) (i : Nat) : En → Option Res := fun ρ => match ρ[i]? with
  | some (.l (d :: ds)) => (asg t d (ρ.set i (.l ds))).map .nx
  | _ => none
theorem psd_pop0 {tg : Expr} {t : Tg} {j : Nat} {q0 : Pos} (hN : X.N[i]? = some x) (hv : Vis X.env.scope x) (hd : (x == ("__debug__" : Str)) = false) (hcd : (x == ("__classdict__" : Str)) = false) (hline : (ap.endLine == cp.line) = true) (hg : PG X tg (gD X.kf t))
    (hs : swapsWithSole [tg] (.Call (.Attribute (.Name x p) "pop" ap) [.Constant (.int 0) j q0] [] cp) pos.line X.env = pure false) (hw : swappedStores [tg] (.Call (.Attribute (.Name x p) "pop" ap) [.Constant (.int 0) j q0] [] cp) X.env = pure none) (h1 : (assignEach [tg] X.env).map (·.2) = [assign tg X.env]) :
    PS X (.Assign [tg] (.Call (.Attribute (.Name x p) "pop" ap) [.Constant (.int 0) j q0] [] cp) pos) (sD X.kf (gpop0 t i)) := by
  refine PSi (ps_asg (pe_bm PySem.F.plainAttrs_list PySem.F.slot_list_pop PySem.F.type_list_pop mt_popAt (pe_var (i := i) hN hv hd hcd) (pa_cons (pe_int (i := 0) (j := j) (pos := q0)) pa_nil rfl) rfl rfl hline rfl rfl) hg hs hw h1) fun E σ H h => ?_
  obtain ⟨W, F, ρ, r, sg, e0, k⟩ := h
  unfold gpop0 at e0
  split at e0
  · rename_i d ds exs
    obtain ⟨ρ', eρ, rfl⟩ := Option.map_eq_some_iff.mp e0
    obtain ⟨a, vs, es, e1, e2, e3, e4⟩ := sg.vw.getL exs
    cases e4 with
    | @cons v0 _ vs0 _ q qs =>
      have sg' := sg.mut exs es qs
      exact ⟨.ref a, es, .inl ⟨rfl, _, .of e1⟩, a, _, 0, 0, v0, rfl, rfl, e1, by omega, by omega, by simp [seqIndex?], rfl, ⟨_, F, _, d, ρ', sg'.vw, q, eρ, fun σ' vw' _ => k σ' F _ ⟨sg'.ok, vw'⟩⟩⟩
  · cases e0

/-! ### for t in f(a, x.pop()): body -/
def tS (K : Kf) (f : En → Option (En × D)) : TE := fun σ H Q => ∃ W F ρ ρ' d, Sg K W F H σ ρ ∧ f ρ = some (ρ', d) ∧ ∀ v F' H', Same W.F0 F' → Sg K W F' H' σ ρ' → Da K F' v d → Q v H'
def iS (K : Kf) (f : En → Option (En × List D)) : TI := fun σ H R => ∃ W F ρ ρ' ds, Sg K W F H σ ρ ∧ f ρ = some (ρ', ds) ∧ ∀ J F' H', Sg K W F' H' σ ρ' → Yl K F' J ds → R J H'
def gitS2 (f : En → Option (En × D)) : En → Option (En × List D) := fun ρ => (f ρ).bind fun p => (itemsD p.2).map fun ds => (p.1, ds)
theorem pid_dataS {tg : Expr} {f : En → Option (En × D)} (ha : PE X e (tS X.kf f)) : PI X tg e (iS X.kf (gitS2 f)) := by
  refine ⟨fun pins s σ H R I h => ?_⟩
  obtain ⟨W, F, ρ, ρ', ds, sg, e, k⟩ := h
  obtain ⟨⟨ρ1, d⟩, ed, e⟩ := bind_some_iff e
  obtain ⟨ds1, ei, e⟩ := Option.map_eq_some_iff.mp e
  cases e
  change itemsD d = some _ at ei
  unfold itemsD at ei
  split at ei
  · cases ei
    refine (pi_list ha).run pins s σ H R I ⟨W, F, ρ, _, _, sg, ed, fun v F1 H1 _ sg1 q1 => ?_⟩
    cases q1 with
    | lst h1 q1 => exact ⟨_, rfl, ⟨_, .of (sg1.vw.sub _ _ h1)⟩, k _ F1 H1 sg1 (yl_list h1 q1)⟩
  · cases ei
    refine (pi_tup ha).run pins s σ H R I ⟨W, F, ρ, _, _, sg, ed, fun v F1 H1 _ sg1 q1 => ?_⟩
    cases q1 with
    | tup h1 q1 => exact ⟨_, rfl, ⟨_, sqT_same sg1.vw.sub h1⟩, k _ F1 H1 sg1 (yl_tup h1 q1)⟩
  · cases ei
    refine (pi_str ha).run pins s σ H R I ⟨W, F, ρ, _, _, sg, ed, fun v F1 H1 _ sg1 q1 => ?_⟩
    cases q1
    exact ⟨_, rfl, k _ F1 H1 sg1 (yl_str _)⟩
  · cases ei
def gforS (t : Tg) (fi : En → Option (En × List D)) (gb : En → Option Res) : En → Option Res := fun ρ => (fi ρ).bind fun p => forL t gb p.2 p.1
theorem psd_forS {tg iter : Expr} {body : List Stmt} {t : Tg} {fi : En → Option (En × List D)} {gb : En → Option Res} (hp : PassesOwn (model X.prog X.w) X.A X.env X.xe) (hc : X.calm = true) (hi : PI X tg iter (iS X.kf fi)) (hg : PG X tg (gD X.kf t)) (hb : PSs X body (sD X.kf gb)) (hs : ∀ x, foldedSetIterable iter X.env x = pure x) :
    PS X (.For tg iter body [] pos) (sD X.kf (gforS t fi gb)) := PSi (ps_for hp hc hi hg hb hs) fun E σ H h => by
  obtain ⟨W, F, ρ, r, sg, e, k⟩ := h
  obtain ⟨⟨ρ1, ds⟩, ed, e⟩ := bind_some_iff e
  refine ⟨W, F, ρ, ρ1, ds, sg, ed, fun J F1 H1 sg1 yl => ?_⟩
  refine ⟨fun i m σ' H' => i + m = ds.length ∧ ∃ F' ρ', Same F1 F' ∧ Sg X.kf W F' H' σ' ρ' ∧ forL t gb (ds.drop i) ρ' = some r, ⟨ds.length, Nat.zero_add _, F1, ρ1, Same.refl _, sg1, e⟩, fun i m σ2 H2 hW => ?_⟩
  obtain ⟨em, F2, ρ2, s2, sg2, e2⟩ := hW
  by_cases hi : i < ds.length
  · refine .inr ⟨yl.go F2 H2 s2 sg2.vw.sub i hi, fun σ' H' => ∃ F' ρ', Same F1 F' ∧ Sg X.kf W F' H' σ' ρ' ∧ forL t gb (ds.drop (i + 1)) ρ' = some r, fun σ' H' hN => ?_, fun x H' hy => ?_⟩
    · obtain ⟨F', ρ', z⟩ := hN
      exact ⟨m - 1, by omega, by omega, F', ρ', z⟩
    · obtain ⟨F3, g3, q3⟩ := yl.yld F2 H2 s2 sg2.vw.sub i _ x H' (List.getElem?_eq_getElem hi) hy
      rw [List.drop_eq_getElem_cons hi] at e2
      obtain ⟨ρ3, e3, e2⟩ := bind_some_iff e2
      obtain ⟨r4, e4, e2⟩ := bind_some_iff e2
      refine ⟨_, F3, ρ2, ds[i], ρ3, sg2.vw.grow g3, q3, e3, fun σ3 vw3 _ => ⟨⟨W.H0, F3, W.B⟩, F3, ρ3, r4, ⟨⟨(sg2.ok.grow g3).same, (sg2.ok.grow g3).live, Same.refl _, fun _ _ z => .inl z⟩, vw3⟩, e4, ?_⟩⟩
      have up : ∀ {F4 H4 : Hp}, Ok0 ⟨W.H0, F3, W.B⟩ F4 H4 → Ok0 W F4 H4 := fun {F4 H4} ok => ⟨ok.same, ok.live, (sg2.ok.grow g3).up.trans ok.up, fun a o z => by
        rcases ok.new a o z with w | w
        · exact (sg2.ok.grow g3).new a o w
        · exact .inr w⟩
      cases r4 with
      | nx ρ4 => exact fun σ4 F4 H4 sg4 => ⟨F4, ρ4, (s2.trans g3.ff).trans sg4.ok.up, ⟨up sg4.ok, sg4.vw⟩, e2⟩
      | rt d =>
        cases e2
        exact fun v F4 H4 o => k v F4 H4 ⟨up o.ok, o.sub, o.da⟩
  · have ei : i = ds.length := by omega
    subst ei
    refine .inl ⟨yl.stop F2 H2 s2 sg2.vw.sub, ?_⟩
    rw [List.drop_length] at e2
    cases e2
    exact k σ2 F2 H2 sg2
/-- f(a, x.pop()) -/
def gcpop (g : List D → Option D) (i : Nat) (fa : En → Option D) : En → Option (En × D) := fun ρ => (fa ρ).bind fun da => match ρ[i]? with
  | some (.l ds) => (ds[ds.length - 1]?).bind fun y => (g [da, y]).map fun z => (ρ.set i (.l ds.dropLast), z)
  | _ => none
theorem pd_cpop {k : Nat} {f : Addr} {fd : FuncData} {ps : List Str} {g : List D → Option D} {y : Str} {p2 : Pos} (G : FnOk X.prog X.w X.kf X.mg X.base CX0 k f fd ps (spD X.kf 2 g)) (hr : Room k X.A) (hg : Gl X y) (hm : X.mg y = some (.ref f))
    (hk : PySem.W.keepIn X.kf (.ref f) = true) (hb : Binds X.kf fd ps []) (hdb : (y == ("__debug__" : Str)) = false) (ha : PE X e (tD X.kf fe)) (hN : X.N[i]? = some x) (hv : Vis X.env.scope x) (hd : (x == ("__debug__" : Str)) = false) (hcd : (x == ("__classdict__" : Str)) = false) (hline : (ap.endLine == cp.line) = true)
    (hst : starEach [e, .Call (.Attribute (.Name x p) "pop" ap) [] [] cp] X.env = (false, eval e X.env) :: starEach [.Call (.Attribute (.Name x p) "pop" ap) [] [] cp] X.env) (hpl : (backTo pos (starEach [.Call (.Attribute (.Name x p) "pop" ap) [] [] cp] X.env)).any (·.1) = false) :
    PE X (.Call (.Name y p2) [e, .Call (.Attribute (.Name x p) "pop" ap) [] [] cp] [] pos) (tS X.kf (gcpop g i fe)) := by
  refine PEi (pe_call G hr hg hm hk hb .nil pass0 (pa_cons ha (pa_cons (pe_bm0 (X := X) PySem.F.plainAttrs_list PySem.F.slot_list_pop PySem.F.type_list_pop mt_pop (pe_var (i := i) hN hv hd hcd) rfl hline) pa_nil rfl) hst) hdb hst hpl) fun σ H Q h => ?_
  obtain ⟨W, F, ρ, ρ', d, sg, e0, kk⟩ := h
  obtain ⟨da, eda, e0⟩ := bind_some_iff e0
  split at e0
  · rename_i ds exs
    obtain ⟨yd, ey, e0⟩ := bind_some_iff e0
    obtain ⟨z, ez, e0⟩ := Option.map_eq_some_iff.mp e0
    cases e0
    refine ⟨_, F, ρ, da, sg.vw, eda, fun v F1 H1 g1 q1 => ?_⟩
    have sg1 := sg.grow g1
    obtain ⟨a, vs, es, e1, e2, e3, e4⟩ := sg1.vw.getL exs
    obtain ⟨w, ew, qw⟩ := e4.get ey
    have sg2 := sg1.mut exs es e4.dropLast
    refine ⟨.ref a, es, .inl ⟨rfl, _, .of e1⟩, a, vs, w, rfl, rfl, e1, by rw [e4.length]; exact ew, ?_⟩
    show spD X.kf 2 g ([v, w] ++ []) _ Q E0
    rw [List.append_nil]
    exact ⟨rfl, F1, [da, yd], d, sg2.vw.sub, .cons q1 (.cons qw .nil), ez, fun u F3 H3 g3 q3 => kk u F3 H3 (sg2.grow g3).ok.up (sg2.grow g3) q3⟩
  · cases e0
end
section
variable {X : Cx} {pos : Pos}
/-- x = y, y's dict frozen -/
def gmov (i j : Nat) : En → Option Res := fun ρ => match ρ[j]? with | some (.f kvs) => some (.nx (ρ.set i (.f kvs))) | _ => none
theorem psd_mov {i j : Nat} {x y : Str} {pos' p : Pos} (hN : X.N.Nodup) (hi : X.N[i]? = some x) (hx : Loc X.env.scope x) (hj : X.N[j]? = some y) (hv : Vis X.env.scope y) (hd : (y == ("__debug__" : Str)) = false) (hcd : (y == ("__classdict__" : Str)) = false) (hs : swapsWith (.Name y p) (some (.Name x pos')) pos.line X.env = pure false) (hf : X.fn x = true ∨ X.env.scope.names.lookup x = some .local) :
    PS X (.Assign [.Name x pos'] (.Name y p) pos) (sD X.kf (gmov i j)) := PSi (ps_set hN hi hx (pe_var (i := j) hj hv hd hcd) hs hf) fun E σ H h => by
  obtain ⟨W, F, ρ, r, sg, e, k⟩ := h
  unfold gmov at e
  split at e
  · rename_i kvs ek
    cases e
    obtain ⟨a, xs, es, _, _⟩ := sg.vw.getF ek
    exact ⟨_, es, k _ F H ⟨sg.ok, sg.vw.setF ek es⟩⟩
  · cases e
def gfrzM (i : Nat) : En → Option En := fun ρ => match ρ[i]? with | some (.m kvs) => some (ρ.set i (.f kvs)) | _ => none
theorem psd_frzM {i : Nat} {rest : List Stmt} {gs : En → Option Res} (h : PSs X rest (sD X.kf gs)) : PSs X rest (sD X.kf (fun ρ => (gfrzM i ρ).bind gs)) := PSsi h fun E σ H h => by
  obtain ⟨W, F, ρ, r, sg, e, k⟩ := h
  obtain ⟨ρ1, e1, e⟩ := bind_some_iff e
  unfold gfrzM at e1
  split at e1
  · cases e1
    obtain ⟨F', sg'⟩ := sg.frzM (by assumption)
    exact ⟨W, F', _, r, sg', e, k⟩
  · cases e1
end
/-! ### for key in dict -/
def ItX (K : Kf) (d : Addr) (xs : DX) : It :=
  ⟨fun i H => H d = some (dHO K d xs) ∧ i < xs.it.length, fun i H x H' => H' = H ∧ ∃ e, xs.it[i]? = some e ∧ x = .ref e.2.1, fun i H => H d = some (dHO K d xs) ∧ xs.it.length ≤ i⟩
theorem xy_get : ∀ {xs : DX0} {ys : List (List Key × Addr × Value)} {i : Nat} {x : List Key × Addr × V}, XY xs ys → xs[i]? = some x → ∃ y, ys[i]? = some y ∧ x.2.1 = y.2.1
  | _, _, 0, x, .cons h t, e => by cases e; exact ⟨_, rfl, h.2.1⟩
  | _, _, i + 1, x, .cons h t, e => by
    rw [List.getElem?_cons_succ] at e
    obtain ⟨y, e1, e2⟩ := xy_get t e
    exact ⟨y, by rw [List.getElem?_cons_succ]; exact e1, e2⟩
  | _, _, 0, x, .nil, e => by cases e
  | _, _, i + 1, x, .nil, e => by cases e
theorem dict_raw {X : Cx} {pins : List (Addr × Obj)} {σ : St} {H : Hp} {s : Shared} {d : Addr} {xs : DX} (I : Inv X pins σ H s) (h : H d = some (dHO X.kf d xs)) :
    (d == sysModules) = false ∧ s.heap.get? d = some xs.ob ∧ xs.ob.ExactDict ∧ ∃ (es : Array DictEntry) (ep : Nat), xs.ob.data = .dict es ep ∧ es.size = xs.it.length ∧ ∀ (i : Nat) x, xs.it[i]? = some x → ∃ en, es[i]? = some en ∧ en.key = .ref x.2.1 := by
  obtain ⟨⟨h4, h1, h2, ys, h3, es, ep, h5, h6, h7, h8⟩, _⟩ := (show ObjOk X.prog X.w H s.heap d (dHO X.kf d xs) from I.hok d _ h)
  refine ⟨h1, h4, h5, es, ep, h6, ?_, fun i x e => ?_⟩
  · rw [← Array.length_toList, h7, List.length_map, ← Paired.length h3]
  · obtain ⟨y, e1, e2⟩ := xy_get h3 e
    have := entry_at h7 i
    rw [e1] at this
    exact ⟨_, this, by rw [e2]; rfl⟩
theorem turn_keysX {K : Kf} {tg : Expr} {d : Addr} {xs : DX} {es : Array DictEntry} {ep : Nat} (it : Addr) (hod : xs.ob.data = .dict es ep) : Turn K.P K.w K.K tg (ItX K d xs) [it] it (fun i h => h.IsKeyIter it d i xs.it.length ep) where
  mem := by simp
  obj := fun i h st b hb => by
    have e : b = it := by simpa using hb
    subst e
    obtain ⟨oi, e, c, dd⟩ := st
    exact ⟨oi, e, fun v z => by rw [dd] at z; cases z⟩
  keep := fun i h h' st k => st.at fun oi e => k it (by simp) oi e
  item := by
    intro X hP hw hK hc i pins s σ H E I hf st hg
    obtain ⟨K0, P0, w0⟩ := K
    simp only at hP hw hK
    subst hP hw hK
    obtain ⟨hd, hi⟩ := hg
    obtain ⟨f0, f1, f2, f3, f4, f5⟩ := hf it (by simp)
    obtain ⟨hs, hgd, hx, es', ep', hdt, hsz, ent⟩ := dict_raw I hd
    obtain ⟨rfl, rfl⟩ := dict_ep hod hdt
    obtain ⟨en, hen, hkey⟩ := ent i _ (List.getElem?_eq_getElem hi)
    refine next_key_item st hgd hdt hsz hen fun h' st' sb => ?_
    have I1 : Inv X pins σ H { s with heap := h' } := I.turned (t' := s.toks) (fun b ob hb e => (sb.2 b hb).trans e) f0 f1 f3 f4 f5
    obtain ⟨oi, e, c, dd⟩ := id st'
    exact ⟨en.key, rfl, go_of (s := { s with heap := h' }) e c dd (by decide) ⟨.ref (xs.it[i]).2.1, H, I1, hkey, ⟨rfl, _, List.getElem?_eq_getElem hi, rfl⟩, st', fun b hb => (hf b hb).1⟩⟩
  done := by
    intro X hP hw hK hc i pins s σ H E I hf st hg
    obtain ⟨K0, P0, w0⟩ := K
    simp only at hP hw hK
    subst hP hw hK
    obtain ⟨hd, hi⟩ := hg
    obtain ⟨f0, f1, f2, f3, f4, f5⟩ := hf it (by simp)
    obtain ⟨hs, hgd, hx, es', ep', hdt, hsz, ent⟩ := dict_raw I hd
    obtain ⟨rfl, rfl⟩ := dict_ep hod hdt
    exact next_key_end (I.ok.hd hc) st hgd hdt hsz hi fun h' eb => ⟨rfl, I.turned (t' := s.toks) (fun b ob hb e => eb b ob hb e) f0 f1 f3 f4 f5⟩
  self := fun A i s Q E st h => wpAny_pyIter_keyiter st h
theorem Dk0.key {K : Kf} {F : Hp} : ∀ {xs : DX0} {kvs : List (D × D)} {i : Nat} {d : D}, Dk0 K F xs kvs → (kvs.map (·.1))[i]? = some d → ∃ x, xs[i]? = some x ∧ Da K F (.ref x.2.1) d
  | _, _, 0, d, .cons h t, e => by cases e; exact ⟨_, rfl, h.2.1⟩
  | _, _, i + 1, d, .cons h t, e => by
    rw [List.map_cons, List.getElem?_cons_succ] at e
    obtain ⟨y, e1, e2⟩ := Dk0.key t e
    exact ⟨y, by rw [List.getElem?_cons_succ]; exact e1, e2⟩
  | _, _, 0, d, .nil, e => by cases e
  | _, _, i + 1, d, .nil, e => by cases e
theorem yl_dict {K : Kf} {F : Hp} {a : Addr} {xs : DX} {kvs : List (D × D)} (h : F a = some (dHO K a xs)) (q : Dks K F xs kvs) : Yl K F (ItX K a xs) (kvs.map (·.1)) where
  go := fun F2 H2 s1 s2 i hi => ⟨s2 _ _ (s1 _ _ h), by rw [List.length_map] at hi; rw [Paired.length q]; exact hi⟩
  stop := fun F2 H2 s1 s2 => ⟨s2 _ _ (s1 _ _ h), by rw [List.length_map, Paired.length q]; exact Nat.le_refl _⟩
  yld := fun F2 H2 s1 s2 i d x H' hd hy => by
    obtain ⟨rfl, e, he, rfl⟩ := hy
    obtain ⟨y, e1, e2⟩ := Dk0.key q hd
    rw [he] at e1
    cases e1
    exact ⟨F2, Gr.refl s2, e2.same s1⟩
def gkeys (i : Nat) : En → Option (List D) := fun ρ => match ρ[i]? with
  | some (.f kvs) => some (kvs.map (·.1))
  | _ => none
theorem pid_keys {X : Cx} {tg : Expr} {i : Nat} {x : Str} {p : Pos} (hN : X.N[i]? = some x) (hv : Vis X.env.scope x) (hd : (x == ("__debug__" : Str)) = false) (hcd : (x == ("__classdict__" : Str)) = false) : PI X tg (.Name x p) (iD X.kf (gkeys i)) := by
  refine ⟨fun pins s σ H R I h => ?_⟩
  obtain ⟨P, F, ρ, ds, vw, e, k⟩ := h
  unfold gkeys at e
  split at e
  · rename_i kvs ek
    cases e
    obtain ⟨a, xs, es, e1, e2⟩ := vw.getF ek
    refine thn ((pe_var (i := i) hN hv hd hcd).run pins s σ H (fun v H2 => v = .ref a ∧ H2 = H) I ⟨_, es, rfl, rfl⟩) fun u s1 ⟨x2, H1, I1, rx, ex, eh⟩ => ?_
    subst ex eh
    obtain rfl : u = Value.ref a := rx
    obtain ⟨hs, hgd, hx, es', ep, hdt, hsz, ent⟩ := dict_raw I1 (vw.sub _ _ e1)
    refine iter_keys hs hgd hx hdt (pi_one (tk := s1.toks) I1 _ (turn_keysX (K := X.kf) _ hdt) ⟨_, Heap.get?_push_size _ rfl, rfl, ?_⟩ (k _ F H1 (Gr.refl vw.sub) (yl_dict e1 e2)))
    rw [hsz] <;> rfl
  · cases e
end DL
end
section
namespace DL
open PySem PySem.Spec L2
open PyProof.Rows hiding St

/-! ### dicts as data -/
def dlook (ks : List Key) (xs : List D) (k : Key) : Option D := ((ks.zip xs).find? fun p => decide (p.1 = k)).map (·.2)
theorem keyI_val {K : Kf} {F : Hp} {v : V} {d : D} {k : Key} (h : Da K F v d) (e : keyI d = some k) : v = kV k := by
  cases h <;> first | (cases e; rfl) | cases e
theorem look_val {K : Kf} {F : Hp} {k : Key} : ∀ {ks : List Key} {vs : List V} {ds : List D}, Das K F vs ds → (dlook ks ds k = none ∧ valV (ks.zip vs) k = none) ∨ ∃ d v, dlook ks ds k = some d ∧ valV (ks.zip vs) k = some v ∧ Da K F v d
  | [], _, _, _ => .inl ⟨rfl, rfl⟩
  | _ :: _, _, _, .nil => .inl ⟨rfl, rfl⟩
  | k0 :: ks, _, _, .cons (v := v) (d := d) (ds := ds') h q => by
    by_cases e : k0 = k
    · refine .inr ⟨d, v, ?_, ?_, h⟩
      · unfold dlook
        rw [List.zip_cons_cons, List.find?_cons]
        simp only [e, decide_true]
        rfl
      · rw [List.zip_cons_cons]
        exact valV_pos e
    · have e1 : dlook (k0 :: ks) (d :: ds') k = dlook ks ds' k := by
        unfold dlook
        rw [List.zip_cons_cons, List.find?_cons]
        simp only [e, decide_false]
      rw [e1, List.zip_cons_cons, valV_neg e]
      exact look_val q
def gpairs : List ((En → Option D) × (En → Option D)) → En → Option (List (D × D))
  | [], _ => some []
  | (f, g) :: r, ρ => (f ρ).bind fun x => (g ρ).bind fun y => (gpairs r ρ).bind fun ps => some ((x, y) :: ps)
def trsD (K : Kf) (fps : List ((En → Option D) × (En → Option D))) : List (TE × TE) := fps.map fun p => (tD K p.1, tD K p.2)
theorem tPairs_d {K : Kf} {σ : St} : ∀ (fps : List ((En → Option D) × (En → Option D))) {P : Addr → Prop} {F H : Hp} {ρ : En} {ds : List (D × D)} {Q : List (V × V) → Hp → Prop}, Vw K P F H σ ρ → gpairs fps ρ = some ds →
    (∀ vs F' H', Gr F H F' H' → Das K F' (vs.map (·.1)) (ds.map (·.1)) → Das K F' (vs.map (·.2)) (ds.map (·.2)) → Q vs H') → tPairs (trsD K fps) σ H Q
  | [], P, F, H, ρ, ds, Q, vw, e, k => by
    cases e
    exact k [] F H (Gr.refl vw.sub) .nil .nil
  | (f, g) :: r, P, F, H, ρ, ds, Q, vw, e, k => by
    obtain ⟨x, ex, e⟩ := bind_some_iff e
    obtain ⟨y, ey, e⟩ := bind_some_iff e
    obtain ⟨ps, eps, e⟩ := bind_some_iff e
    cases e
    exact ⟨P, F, ρ, x, vw, ex, fun v F1 H1 g1 q1 => ⟨P, F1, ρ, y, vw.grow g1, ey, fun w F2 H2 g2 q2 => tPairs_d r ((vw.grow g1).grow g2) eps fun vs F3 H3 g3 a b =>
      k _ F3 H3 ((g1.trans g2).trans g3) (.cons ((q1.same g2.ff).same g3.ff) a) (.cons (q2.same g3.ff) b)⟩⟩
theorem mergeK_app : ∀ (kvs acc : List (Key × V)), ((acc ++ kvs).map (·.1)).Nodup → mergeK acc kvs = acc ++ kvs
  | [], acc, _ => by show acc = acc ++ []; rw [List.append_nil]
  | p :: r, acc, h => by
    have h1 : putK acc p.1 p.2 = acc ++ [p] := by
      unfold putK
      rw [if_neg]
      intro z
      rw [List.any_eq_true] at z
      obtain ⟨q, hq, hz⟩ := z
      rw [decide_eq_true_eq] at hz
      rw [List.map_append, List.map_cons, List.nodup_append] at h
      exact h.2.2 q.1 (List.mem_map_of_mem hq) p.1 List.mem_cons_self hz
    show mergeK (putK acc p.1 p.2) r = _
    rw [h1, mergeK_app r (acc ++ [p]) (by rw [List.append_assoc]; exact h), List.append_assoc]
    rfl
def gdic (fps : List ((En → Option D) × (En → Option D))) : En → Option D := fun ρ => (gpairs fps ρ).bind fun ps => (keyL (ps.map (·.1))).bind fun ks => if ks.Nodup ∧ ps.length ≤ 15 then some (.dic ks (ps.map (·.2))) else none
/-- a thing is laid ahead, told later, and frozen -/
theorem Gr.late {F H F2 H2 : Hp} {p : Addr} {o o' : HO} (hp : H p = none) (sf : Same F H) (g : Gr F (upd H p o) F2 H2) : Gr F H (upd F2 p o') (upd H2 p o') ∧ F2 p = none ∧ H2 p = some o := by
  have hf : F p = none := sf.free hp
  have hf2 : F2 p = none := by
    cases z : F2 p with
    | none => rfl
    | some q =>
      rcases g.new p q z with w | w
      · rw [hf] at w; cases w
      · rw [upd_same] at w; cases w
  refine ⟨⟨fun b x e => ?_, g.ff.trans (same_upd hf2), same_upd2 g.fh, fun a x e => ?_⟩, hf2, g.hh _ _ upd_same⟩
  · have hb := ne_of_none e hp
    rw [upd_ne hb]
    exact g.hh b x (by rw [upd_ne hb]; exact e)
  · by_cases ha : a = p
    · subst ha
      exact .inr hp
    · rw [upd_ne ha] at e
      rcases g.new a x e with w | w
      · exact .inl w
      · rw [upd_ne ha] at w
        exact .inr w
section
variable {X : Cx} {a b c e : Expr} {pos p : Pos} {fa fb fc : En → Option D}
theorem pd_dic {keys : List (Option Expr)} {values : List Expr} {fps : List ((En → Option D) × (En → Option D))} (h : PPs X pos keys values (trsD X.kf fps)) (hall : keys.all (·.isSome) = true) (hl : keys.length = values.length) (h0 : keys ≠ []) (h15 : keys.length ≤ 15) :
    PE X (.Dict keys values pos) (tD X.kf (gdic fps)) := by
  refine PEi (pe_disp h hall hl h0 h15) fun σ H Q h => ?_
  obtain ⟨P, F, ρ, d, vw, e, k⟩ := h
  obtain ⟨ps, eps, e⟩ := bind_some_iff e
  obtain ⟨ks, eks, e⟩ := bind_some_iff e
  split at e
  · rename_i hh
    cases e
    intro q hq
    refine tPairs_d fps (vw.grow (Gr.side vw.sub hq)) eps fun vs F' H' g h1 h2 => ?_
    have ev := keyL_vals eks h1
    have hlen : ks.length = (vs.map (·.2)).length := by
      have := congrArg List.length ev
      rw [List.length_map, List.length_map] at this
      rw [List.length_map, ← this]
    have hz : (ks.zip (vs.map (·.2))).map (·.1) = ks := List.map_fst_zip (by rw [hlen]; exact Nat.le_refl _)
    have hvs : vs = (ks.zip (vs.map (·.2))).map fun kv => (kV kv.1, kv.2) := by
      have : ∀ (ks : List Key) (vs : List (V × V)), vs.map (·.1) = ks.map kV → vs = (ks.zip (vs.map (·.2))).map fun kv => (kV kv.1, kv.2) := by
        intro ks
        induction ks with
        | nil => intro vs h; cases vs with
          | nil => rfl
          | cons _ _ => cases h
        | cons k ks ih => intro vs h; cases vs with
          | nil => cases h
          | cons v vs =>
            rw [List.map_cons, List.map_cons] at h
            injection h with h1 h2
            rw [List.map_cons, List.zip_cons_cons, List.map_cons, ← ih vs h2]
            show v :: vs = (kV k, v.2) :: vs
            rw [← h1]
      exact this ks vs ev
    obtain ⟨gl, hf2, he2⟩ := Gr.late (o' := .dK (ks.zip (vs.map (·.2)))) hq vw.sub g
    refine ⟨he2, ks.zip (vs.map (·.2)), hvs, ?_, ?_⟩
    · rw [List.length_zip, ← hlen, Nat.min_self, hlen, List.length_map]
      have := h2.length
      rw [List.length_map, List.length_map] at this
      rw [this]
      exact hh.2
    · rw [mergeK_app _ [] (by rw [List.nil_append, hz]; exact hh.1), List.nil_append]
      exact k _ _ _ gl (.dic upd_same hlen (h2.same (same_upd hf2)))
  · cases e
/-- a[b], a a dict as datum -/
def dixD (a b : D) : Option D := match a with
  | .dic ks xs => (keyI b).bind (dlook ks xs)
  | _ => none
theorem pd_dix (hu : X.A.units + 65 < cLine) (ha : PE X a (tD X.kf fa)) (hb : PE X b (tD X.kf fb)) (hs : PlainIx b) : PE X (.Subscript a b pos) (tD X.kf (bind2 dixD fa fb)) := by
  refine PEi (pe_dget (by omega) ha hb hs) fun σ H Q h => ?_
  obtain ⟨P, F, ρ, d, vw, e, k⟩ := h
  obtain ⟨x, ex, e⟩ := bind_some_iff e
  obtain ⟨y, ey, e⟩ := bind_some_iff e
  refine ⟨P, F, ρ, x, vw, ex, fun v F1 H1 g1 q1 => ⟨P, F1, ρ, y, vw.grow g1, ey, fun w F2 H2 g2 q2 => ?_⟩⟩
  unfold dixD at e
  split at e
  · obtain ⟨kk, ek, e⟩ := bind_some_iff e
    have := keyI_val q2 ek
    subst this
    cases q1 with
    | dic h1 l1 q1 =>
      rcases look_val (k := kk) (ks := _) (q1.same g2.ff) with ⟨z, _⟩ | ⟨d', v', z1, z2, z3⟩
      · rw [e] at z
        cases z
      · rw [e] at z1
        cases z1
        exact ⟨_, v', rfl, by rw [← z2]; exact DGet.k (g2.hh _ _ (g1.fh _ _ h1)), k v' F2 H2 (g1.trans g2) z3⟩
  · cases e
/-- x[b], x a dict of the module's own, from text to text -/
def gdxL (ps : List (List Nat × List Nat)) : D → Option D
  | .str l => (ps.find? fun p => decide (p.1 = l)).map fun p => .str p.2
  | _ => none
def KTx (K : Kf) (p : Addr) (ps : List (List Nat × List Nat)) : Prop := ∀ q ∈ ps, KDct K.K K.w p (mkS q.1) (.str (mkS q.2))
theorem pd_gdx {x : Str} {p : Addr} {ps : List (List Nat × List Nat)} {xp : Pos} (hg : Gl X x) (hm : X.mg x = some (.ref p)) (hd : (x == ("__debug__" : Str)) = false) (hk : KTx X.kf p ps) (hb : PE X b (tD X.kf fb)) (hs : PlainIx b) : PE X (.Subscript (.Name x xp) b pos) (tD X.kf (bind1 (gdxL ps) fb)) := by
  refine PEi (pe_ix ix_kdict (pe_glob hg hm (v := .ref p) rfl hd) hb hs) fun σ H Q h => ?_
  obtain ⟨P, F, ρ, d, vw, e, k⟩ := h
  obtain ⟨y, ey, e⟩ := bind_some_iff e
  refine ⟨P, F, ρ, y, vw, ey, fun w F2 H2 g2 q2 => ?_⟩
  unfold gdxL at e
  split at e
  · rename_i l
    cases q2
    cases ef : ps.find? fun p => decide (p.1 = l) with
    | none => rw [ef] at e; cases e
    | some q =>
      rw [ef] at e
      cases e
      have hq : q.1 = l := by
        have := List.find?_some ef
        exact of_decide_eq_true this
      have := hk q (List.mem_of_find?_eq_some ef)
      rw [hq] at this
      exact ⟨p, mkS l, _, rfl, rfl, this, k _ F2 H2 g2 (.str _)⟩
  · cases e
/-- a.get(b, c), a a dict as datum -/
def dgtD (a b c : D) : Option D := match a with
  | .dic ks xs => (keyI b).map fun k => (dlook ks xs k).getD c
  | _ => none
def bind3 (g : D → D → D → Option D) (fa fb fc : En → Option D) : En → Option D := fun ρ => (fa ρ).bind fun x => (fb ρ).bind fun y => (fc ρ).bind fun z => g x y z
theorem pd_dgt {ap cp : Pos} (hu : X.A.units + 65 < cLine) (ha : PE X a (tD X.kf fa)) (hb : PE X b (tD X.kf fb)) (hc : PE X c (tD X.kf fc)) (m : L2.M2 X a "get" ap b c cp) : PE X (.Call (.Attribute a "get" ap) [b, c] [] cp) (tD X.kf (bind3 dgtD fa fb fc)) := by
  refine PEi (pe_dget2 (by omega) ha hb hc m) fun σ H Q h => ?_
  obtain ⟨P, F, ρ, d, vw, e, k⟩ := h
  obtain ⟨x, ex, e⟩ := bind_some_iff e
  obtain ⟨y, ey, e⟩ := bind_some_iff e
  obtain ⟨z, ez, e⟩ := bind_some_iff e
  refine ⟨P, F, ρ, x, vw, ex, fun v F1 H1 g1 q1 => ?_⟩
  unfold dgtD at e
  split at e
  · obtain ⟨kk, ek, rfl⟩ := Option.map_eq_some_iff.mp e
    cases q1 with
    | dic h1 l1 q1 =>
      refine ⟨_, rfl, .inl ⟨_, .inl (g1.fh _ _ h1)⟩, P, F1, ρ, y, vw.grow g1, ey, fun w F2 H2 g2 q2 => ⟨P, F2, ρ, z, (vw.grow g1).grow g2, ez, fun u F3 H3 g3 q3 => ?_⟩⟩
      have := keyI_val q2 ek
      subst this
      refine ⟨_, DGet.k (g3.hh _ _ (g2.hh _ _ (g1.fh _ _ h1))), ?_⟩
      rcases look_val (k := kk) (ks := _) ((q1.same g2.ff).same g3.ff) with ⟨z1, z2⟩ | ⟨d', v', z1, z2, z3⟩
      · rw [z1] at k
        rw [z2]
        exact k u F3 H3 ((g1.trans g2).trans g3) q3
      · rw [z1] at k
        rw [z2]
        exact k v' F3 H3 ((g1.trans g2).trans g3) z3
  · cases e
/-! ### {k: v}, k a tuple, as a new own dict -/
def tDM (K : Kf) (f : En → Option (List (D × D))) : TE := fun σ H Q => ∃ P F ρ kvs, Vw K P F H σ ρ ∧ f ρ = some kvs ∧ ∀ a xs F' H', Gr F H F' H' → H a = none → F' a = none → H' a = some (dHO K a xs) → Dks K F' xs kvs → Q (.ref a) H'
def gdn1 (fk fv : En → Option D) : En → Option (List (D × D)) := fun ρ => (fk ρ).bind fun a => (fv ρ).bind fun v => if (keyD a).isSome then some [(a, v)] else none
theorem Gr.late' {F H F2 H2 : Hp} {p : Addr} {o o' : HO} (hp : H p = none) (sf : Same F H) (g : Gr F (upd H p o) F2 H2) : Gr F H F2 (upd H2 p o') := by
  obtain ⟨g1, h1, h2⟩ := Gr.late (o' := o') hp sf g
  refine ⟨g1.hh, g.ff, fun b x e => ?_, fun a x e => ?_⟩
  · rw [upd_ne (ne_of_none e h1)]
    exact g.fh _ _ e
  · rcases g.new a x e with w | w
    · exact .inl w
    · have : a ≠ p := ne_of_none e h1
      rw [upd_ne this] at w
      exact .inr w
theorem pe_dnew1 (hu : X.A.units + 65 < cLine) (hk : PE X e (tD X.kf fa)) (hv : PE X b (tD X.kf fb)) : PE X (.Dict [some e] [b] pos) (tDM X.kf (gdn1 fa fb)) := ⟨fun pins s σ H Q I h => by
  obtain ⟨P, F, ρ, kvs, vw, e0, k⟩ := h
  obtain ⟨da, eda, e0⟩ := bind_some_iff e0
  obtain ⟨dv, edv, e0⟩ := bind_some_iff e0
  split at e0
  · rename_i hc
    obtain ⟨kk, hkk⟩ := Option.isSome_iff_exists.mp hc
    cases e0
    have hp : H s.heap.objs.size = none := I.hok.fresh (Nat.le_refl _)
    have hg : (s.heap.push { cls := .type "dict", data := .dict #[] }).get? s.heap.objs.size = some newD := Heap.get?_push_size _ rfl
    have hm : (s.heap.objs.size == sysModules) = false := beq_eq_false_iff_ne.mpr (Ne.symm (Nat.ne_of_lt I.big))
    have I1 : Inv X pins σ (upd H s.heap.objs.size (dHO X.kf s.heap.objs.size ⟨newD, []⟩)) { s with heap := s.heap.push { cls := .type "dict", data := .dict #[] } } :=
      I.laid (a := s.heap.objs.size) (o := dHO X.kf s.heap.objs.size ⟨newD, []⟩) (t' := s.toks) (fun _ _ q => Heap.get?_push_of_some _ q) (Nat.le_refl _)
        ⟨⟨hg, hm, Nat.zero_le _, [], .nil, #[], 0, ⟨rfl, rfl, rfl⟩, rfl, rfl, List.nodup_nil⟩, ⟨_, hg⟩, fun g1 g2 p k => ⟨k _ p.1, p.2⟩⟩
    have g0 : Gr F H F (upd H s.heap.objs.size (dHO X.kf s.heap.objs.size ⟨newD, []⟩)) := Gr.side vw.sub hp
    rw [arm_eval_Dict, zip_pairTrees [some e] [b] X.env pos rfl rfl, dictDisplay_pairs _ (by simp [pairTrees]) (by simp [pairTrees])]
    refine wpAny_bind (wpAny_standAt (wpAny_bind (wpAny_subDictH (knd := tupleKind (mixKind X.prog X.w)) (Q := fun d s' => wpAny (model X.prog X.w) X.A (pure (Value.ref d)) _ _ s') (show X.A.units < cLine by omega) (by simp [pairTrees]) ?_)))
    refine pairTrees_cons_walk (thn (hk.run pins _ σ _ (fun v H1 => ∃ F1, Gr F (upd H s.heap.objs.size (dHO X.kf s.heap.objs.size ⟨newD, []⟩)) F1 H1 ∧ Da X.kf F1 v da) I1 ⟨_, F, ρ, da, vw.grow g0, eda, fun v F1 H1 g1 q1 => ⟨F1, g1, q1⟩⟩) fun u s1 ⟨x, H1, I2, rx, F1, g1, q1⟩ =>
      thn (hv.run pins s1 σ H1 (fun v H2 => ∃ F2, Gr F1 H1 F2 H2 ∧ Da X.kf F2 v dv) I2 ⟨_, F1, ρ, dv, (vw.grow g0).grow g1, edv, fun v F2 H2 g2 q2 => ⟨F2, g2, q2⟩⟩) fun w2 s2 ⟨y, H2, I3, ry, F2, g2, q2⟩ => pairTrees_nil_walk ?_)
    have g := g1.trans g2
    obtain ⟨_, hf2, hh2⟩ := Gr.late (o' := dHO X.kf s.heap.objs.size ⟨newD, []⟩) hp vw.sub g
    obtain ⟨ba, rfl, kb⟩ := key_at I3 g.fh (q1.same g2.ff) hkk
    cases (show u = Value.ref ba from rx)
    obtain ⟨_, _, ys, rel, dd⟩ := dict_at (kvs := []) I3 g.fh hh2 .nil
    cases rel
    refine ⟨[(kk, ba, w2)], ⟨rfl, rfl, kb, trivial⟩, dd, fun h' tk dd' hs => wpAny_pure ?_⟩
    obtain ⟨o, hq, new⟩ := dHO_ok (xs := [(kk, ba, y)]) hm (by show 1 ≤ sizeLine; decide) (.cons ⟨rfl, rfl, ry⟩ .nil) dd'
    exact ⟨.ref s.heap.objs.size, _, d_write I3 (by rw [hh2]; exact True.intro) hs ⟨o, hq⟩ (new _), rfl, k _ ⟨o, [(kk, ba, y)]⟩ F2 _ (Gr.late' hp vw.sub g) hp hf2 upd_same (.cons ⟨hkk, q1.same g2.ff, q2⟩ .nil)⟩
  · cases e0⟩
def gsetM1 (i : Nat) (fk fv : En → Option D) : En → Option Res := fun ρ => (gdn1 fk fv ρ).map fun kvs => .nx (ρ.set i (.f kvs))
theorem psd_setM1 {i : Nat} {x : Str} {pos' p2 : Pos} (hu : X.A.units + 65 < cLine) (hN : X.N.Nodup) (hi : X.N[i]? = some x) (hx : Loc X.env.scope x) (hk : PE X e (tD X.kf fa)) (hv : PE X b (tD X.kf fb)) (hs : swapsWith (.Dict [some e] [b] p2) (some (.Name x pos')) pos.line X.env = pure false) (hf : X.fn x = true ∨ X.env.scope.names.lookup x = some .local) :
    PS X (.Assign [.Name x pos'] (.Dict [some e] [b] p2) pos) (sD X.kf (gsetM1 i fa fb)) := PSi (ps_set hN hi hx (pe_dnew1 hu hk hv) hs hf) fun E σ H h => by
  obtain ⟨W, F, ρ, r, sg, e, k⟩ := h
  obtain ⟨kvs, ek, rfl⟩ := Option.map_eq_some_iff.mp e
  refine ⟨_, F, ρ, kvs, sg.vw, ek, fun a xs F' H' g hn hf' el q => ?_⟩
  have sg1 : Sg X.kf W F' H' (σ.set i (some (.ref a))) (ρ.set i (.m kvs)) := sg.setNewO g hn el hf' rfl ⟨xs, rfl, q⟩
  by_cases hl : i < ρ.length
  · obtain ⟨F2, sg2⟩ := sg1.frzM (i := i) (kvs := kvs) (List.getElem?_set_self hl)
    rw [List.set_set] at sg2
    exact k _ F2 H' sg2
  · have e1 : ρ.set i (.m kvs) = ρ := List.set_eq_of_length_le (by omega)
    have e2 : ρ.set i (.f kvs) = ρ := List.set_eq_of_length_le (by omega)
    rw [e1] at sg1
    rw [e2] at k
    exact k _ F' H' sg1
end
/-! ### sorted(dict) -/
theorem collect_src {prog : Program} {w : World} {A : Around} {E : Value → Shared → Prop} {s : Shared} {T : String} {r d : Addr} {n : Nat} {P : Nat → Value → Prop} {OK : Heap → Prop} {Q : List Value → Shared → Prop} (K : PySem.W.KdlSrc prog w T r d n P OK) (hh : A.handled = none) (hok : OK s.heap) (hn : n ≤ sizeLine)
    (hQ : ∀ h' tk (acc : Array Value), (∀ b o, s.heap.get? b = some o → h'.get? b = some o) → ItemsOf P acc n → Q acc.toList { s with heap := h', toks := tk }) : wpAny (model prog w) A (collect (.ref r)) Q E s := by
  have hlt := K.there _ hok
  unfold collect
  refine wpAny_bind (wpAny_runValue (codeAny_builtin F.entry_proto_collect ?_))
  rw [Around.under_plainId F.plain_proto_collect _]
  show wpAny _ A.in1 (newList [] >>= fun l => again (.builtin "list.__iadd__" ⟨[l, .ref r], []⟩)) _ _ s
  refine wpAny_bind (wpAny_newObj_type ?_)
  refine wpAny_pure ⟨plainId_quiet F.plain_list_iadd _, codeAny_builtin F.entry_list_iadd ?_⟩
  rw [Around.under_plainId F.plain_list_iadd _]
  show wpAny _ A.in1 (Builtin.List.listExtendWith (.ref s.heap.objs.size) (.ref r) (.ref s.heap.objs.size)) _ _ _
  have hS : (s.heap.push { cls := .type "list", data := .seq ([] : List Value).toArray }).get? s.heap.objs.size = some { cls := .type "list", data := .seq #[] 0 } := Heap.get?_push_size _ rfl
  let R0 : Result → Shared → Prop := fun r s' => r = .ok (.ret (.ref s.heap.objs.size)) ∧ ∃ h' tk acc c, s' = { s with heap := h', toks := tk } ∧ (∀ b o, s.heap.get? b = some o → h'.get? b = some o) ∧ h'.get? s.heap.objs.size = some { cls := .type "list", dict := none, data := .seq acc c, slots := #[] } ∧ ItemsOf P acc n
  have fin : ∀ r s', R0 r s' → (match r with
      | Except.ok (Flow.ret v) => wpAny (model prog w) A (match v with
          | Value.ref a => do
            match (← load a).data with
              | Data.seq xs _ => pure xs.toList
              | _ => unsupported "internal:collect"
          | _ => unsupported "internal:collect") Q E s'
      | Except.ok _ => False
      | Except.error e => E e s') := by
    rintro r s' ⟨rfl, h', tk, acc, c, rfl, hk, hS', hacc⟩
    show wpAny _ A (load s.heap.objs.size >>= _) _ _ _
    refine wpAny_bind (wpAny_load hS' ?_)
    exact wpAny_pure (hQ h' tk acc hk hacc)
  have := PySem.W.kdl_extend (A := A) (R := R0) (s := { s with heap := s.heap.push { cls := .type "list", data := .seq ([] : List Value).toArray } }) K hh (K.keep _ _ hok fun b _ o e => Heap.get?_push_of_some _ e) _ (Nat.ne_of_gt hlt.1) (Nat.ne_of_gt hlt.2) (.ref s.heap.objs.size) 0 hS (fun h' tk acc c hk hS' hacc => ⟨rfl, h', tk, acc, c, rfl, fun b o e => hk b o (Nat.ne_of_lt (Heap.lt_size e)) (Heap.get?_push_of_some _ e), hS', hacc⟩) hn
  refine wpAny_mono this (fun f s' hf => ?_) fun e s' he => fin _ _ he
  cases f with
  | done f => exact fin _ _ hf
  | again c => exact ⟨hf.1, codeAny_mono hf.2 fin⟩
section
variable {X : Cx} {pos p : Pos}
theorem Dk0.keys {K : Kf} {F : Hp} : ∀ {xs : DX0} {kvs : List (D × D)}, Dk0 K F xs kvs → Das K F (xs.map fun x => V.ref x.2.1) (kvs.map (·.1))
  | _, _, .nil => .nil
  | _, _, .cons h t => .cons h.2.1 (Dk0.keys t)
def sortM (kvs : List (D × D)) : Option D := if seqOk (kvs.map (·.1)) && (kvs.map (·.1)).all isTNE && decide (kvs.length ≤ sizeLine) then some (.lst ((kvs.map (·.1)).mergeSort (PySem.W.dataLe false toPy))) else none
def gsortM (i : Nat) : En → Option D := fun ρ => (gdi i ρ).bind sortM
theorem vals_refs : ∀ {vs : List V} {us : List Value} , Vals vs us → Vals vs us := fun h => h
theorem pd_sortM {i : Nat} {x : Str} {p2 : Pos} (hc : X.calm = true) (hu : X.A.units + 65 < cLine) (hg : Gl X "sorted") (hm : X.mg "sorted" = none) (hN : X.N[i]? = some x) (hv : Vis X.env.scope x) (hd : (x == ("__debug__" : Str)) = false) (hcd : (x == ("__classdict__" : Str)) = false) :
    PE X (.Call (.Name "sorted" p) [.Name x p2] [] pos) (tD X.kf (gsortM i)) := by
  refine PEi (pe_callB (id := "sorted") (r := fun xs H Q => ∃ P F ρ kvs d σ a ys, xs = [.ref a] ∧ Vw X.kf P F H σ ρ ∧ H a = some (dHO X.kf a ys) ∧ Dks X.kf F ys kvs ∧ sortM kvs = some d ∧ ∀ v F' H', Gr F H F' H' → Da X.kf F' v d → Q v H') ?_ hg hm (by decide +kernel) (pa_cons (pe_var (i := i) hN hv hd hcd) pa_nil rfl) (by decide) (by decide) rfl rfl) fun σ H Q h => ?_
  · intro pins s σ H xs us Q I r h
    obtain ⟨P, F, ρ, kvs, d, σ0, a, ys, rfl, vw, ha, dk, e, k⟩ := h
    unfold sortM at e
    split at e
    · rename_i hok
      simp only [Bool.and_eq_true, decide_eq_true_eq] at hok
      obtain ⟨⟨hok, htn⟩, hlen⟩ := hok
      cases e
      obtain ⟨hal, hk, hdp⟩ := seqOk_sort hok htn
      rw [Vals.ref1 r]
      obtain ⟨hs, hgd, hx, es', ep, hdt, hsz, ent⟩ := dict_raw I ha
      have hlk : ys.it.length = kvs.length := Paired.length dk
      have q1 := Dk0.keys dk
      have rv : Vals (ys.it.map fun x => V.ref x.2.1) (ys.it.map fun x => Value.ref x.2.1) := by
        have : ∀ l : DX0, Vals (l.map fun x => V.ref x.2.1) (l.map fun x => Value.ref x.2.1) := fun l => by
          induction l with
          | nil => exact .nil
          | cons a l ih => exact .cons rfl ih
        exact this _
      obtain ⟨as, hr⟩ := Dp.readsAll I _ _ _ (q1.dp vw.sub (seqOk_lay hok)) rv
      rw [toPys_map] at hr
      refine sorted_col (vs := ys.it.map fun x => Value.ref x.2.1) (bs := kvs.map (·.1)) (R := fun v d => ∃ w, RelV w v ∧ Da X.kf F w d) (fun Q' E' hq => ?_) (each_of q1 rv) (PySem.W.readsAll_each toPy hr) hal hk (by rw [List.length_map]; exact hlen) (fun b hb => by have := hdp b hb; omega) fun h1 h' tk n' out k1 k2 hat he => ?_
      · refine collect_src (PySem.KdlSrc.rawDict (es := es') (ep := ep) hs) (I.ok.hd hc) ⟨_, hgd, hx, hdt⟩ (by rw [hsz, hlk]; exact hlen) fun h' tk acc hkp hacc => ?_
        have : acc.toList = ys.it.map fun x => Value.ref x.2.1 := by
          apply List.ext_getElem?
          intro j
          rw [List.getElem?_map]
          cases z : ys.it[j]? with
          | none =>
            have h1 := List.getElem?_eq_none_iff.mp z
            rw [List.getElem?_eq_none (by rw [Array.length_toList, hacc.1, hsz]; exact h1)]
            rfl
          | some y =>
            have h1 := (List.getElem?_eq_some_iff.mp z).1
            have h2 : j < acc.size := by rw [hacc.1, hsz]; exact h1
            obtain ⟨en, he1, he2⟩ := ent j y z
            obtain ⟨hj, e3⟩ := hacc.2 j _ (Array.getElem?_eq_getElem h2)
            rw [Array.getElem?_toList, Array.getElem?_eq_getElem h2, e3]
            obtain ⟨_, e4⟩ := Array.getElem?_eq_some_iff.mp he1
            rw [e4, he2]
            rfl
        rw [this]
        exact hq h' tk hkp
      · obtain ⟨ws, rw', dw⟩ := of_each he
        have I1 : Inv X pins σ H { s with heap := h1, toks := tk } := I.kept (t' := tk) k1
        refine ⟨.ref h1.objs.size, _, I1.laid (t' := tk) (o := .lst ws) (fun b ob q => k2 b ob q) (Nat.le_refl _) ?_, rfl, k _ _ _ (Gr.laid vw.sub (I1.hok.fresh (Nat.le_refl _))) (.lst upd_same (dw.same (Gr.laid vw.sub (I1.hok.fresh (Nat.le_refl _))).ff))⟩
        exact ⟨by rw [dw.length, List.length_mergeSort, List.length_map]; exact hlen, out, n', rw', hat⟩
    · cases e
  · obtain ⟨P, F, ρ, d, vw, e, k⟩ := h
    obtain ⟨kvs, ek, e⟩ := bind_some_iff e
    obtain ⟨a, xs, es, e1, e2⟩ := vw.getD ek
    exact ⟨_, es, P, F, ρ, kvs, d, σ, a, xs, rfl, vw, e1, e2, e, k⟩
end
/-! ### xs[lo::st] of a list -/
def stpI (n : Nat) (lo st : Int) : List Nat := sliceRange (sliceBounds (some lo) none (some st) n).1 (sliceBounds (some lo) none (some st) n).2.1 (sliceBounds (some lo) none (some st) n).2.2
def stpL {α : Type} (xs : List α) (lo st : Int) : List α := (stpI xs.length lo st).filterMap (xs[·]?)
def stpD (st : Int) (a b : D) : Option D := match a, b with
  | .lst xs, .int lo => if st = 0 then none else (small (stpL xs lo st)).map .lst
  | _, _ => none
theorem Das.picks {K : Kf} {F : Hp} {vs : List V} {ds : List D} (q : Das K F vs ds) : ∀ is : List Nat, Das K F (is.filterMap (vs[·]?)) (is.filterMap (ds[·]?))
  | [] => .nil
  | i :: is => by
    rw [List.filterMap_cons, List.filterMap_cons]
    cases z : ds[i]? with
    | none =>
      have : vs[i]? = none := by
        rw [List.getElem?_eq_none_iff] at z ⊢
        rw [q.length]
        exact z
      rw [this]
      exact Das.picks q is
    | some d =>
      obtain ⟨v, e, h⟩ := q.get z
      rw [e]
      exact .cons h (Das.picks q is)
theorem Vals.picks {vs : List V} {us : List Value} (q : Vals vs us) : ∀ is : List Nat, Vals (is.filterMap (vs[·]?)) (is.filterMap (us[·]?))
  | [] => .nil
  | i :: is => by
    rw [List.filterMap_cons, List.filterMap_cons]
    cases z : vs[i]? with
    | none =>
      have : us[i]? = none := by
        rw [List.getElem?_eq_none_iff] at z ⊢
        rw [← q.length]
        exact z
      rw [this]
      exact Vals.picks q is
    | some d =>
      obtain ⟨v, e, h⟩ := q.get z
      rw [e]
      exact .cons h (Vals.picks q is)
section
variable {X : Cx} {a b : Expr} {fa fb : En → Option D} {pos p3 p1 : Pos} {k : Nat} {st : Int}
theorem pd_stp (ha : PE X a (tD X.kf fa)) (hb : PE X b (tD X.kf fb)) : PE X (.Subscript a (.Slice (some b) none (some (.Constant (.int st) k p1)) p3) pos) (tD X.kf (bind2 (stpD st) fa fb)) := by
  refine ⟨fun pins s σ H Q I h => ?_⟩
  obtain ⟨P, F, ρ, d, vw, e0, kk⟩ := h
  obtain ⟨x, ex, e0⟩ := bind_some_iff e0
  obtain ⟨y, ey, e0⟩ := bind_some_iff e0
  unfold stpD at e0
  split at e0
  · rename_i xs lo _
    split at e0
    · cases e0
    rename_i hst
    obtain ⟨zs, ez, rfl⟩ := Option.map_eq_some_iff.mp e0
    obtain ⟨rfl, hzl⟩ := small_some ez
    refine Subscript_ (thn (ha.run pins s σ H (fun v H1 => ∃ F1, Gr F H F1 H1 ∧ Da X.kf F1 v (.lst xs)) I ⟨P, F, ρ, _, vw, ex, fun v F1 H1 g1 q1 => ⟨F1, g1, q1⟩⟩) fun v s1 ⟨vx, H1, I1, r1, F1, g1, q1⟩ => ?_)
    refine wpAny_Slice (thn ((po_some hb).run pins s1 σ H1 (fun o H2 => o = some lo ∧ ∃ F2, Gr F1 H1 F2 H2) I1 ⟨P, F1, ρ, _, vw.grow g1, ey, fun v F2 H2 g2 q2 => ?_⟩) fun vl s2 ⟨l, H2, I2, pl, el, F2, g2⟩ => ?_)
    · cases q2
      exact ⟨lo, rfl, rfl, F2, g2⟩
    subst el
    refine thn (po_none.run pins s2 σ H2 (fun o H3 => o = none ∧ H3 = H2) I2 ⟨rfl, rfl⟩) fun vu s3 ⟨u, H3, I3, pu, eu, e3⟩ => ?_
    subst eu e3
    refine thn ((po_some (pe_int (i := st) (j := k) (pos := p1))).run pins s3 σ H3 (fun o H4 => o = some st ∧ H4 = H3) I3 ⟨st, rfl, rfl, rfl⟩) fun vs s4 ⟨o, H4, I4, ps, eo, e4⟩ => ?_
    subst eo e4
    have I5 : Inv X pins σ H4 { s4 with heap := s4.heap.push { cls := .type "slice", data := .fields #[vl, vu, vs] } } := I4.kept (t' := s4.toks) fun b ob q => Heap.get?_push_of_some _ q
    have I6 : (s4.heap.push { cls := .type "slice", data := .fields #[vl, vu, vs] }).IsSliceOf s4.heap.objs.size vl vu vs := Heap.IsSliceOf.new _ vl vu vs
    cases q1 with
    | @lst aL vsL _ h1 q1 =>
      cases r1
      obtain ⟨its, r, ht, hz⟩ := I5.list (.of (g2.hh _ _ (g1.fh _ _ h1)))
      have hlen := r.length
      refine tail_any (ops := [.ref aL, .ref s4.heap.objs.size]) ht.isList.typeIs (PySem.slot_list_getitem.lookup) ?_ (by with_unfolding_all rfl)
      refine wpAny_getItem_list_slice ht.isList I6 pl pu ps (fun z => hst (Option.some.inj z)) ?_ (by rw [List.size_toArray]; omega)
      have hn : its.toArray.size = xs.length := by rw [List.size_toArray, ← hlen, q1.length]
      have e5 : slicePick its.toArray (some lo) none (some st) = ((stpI xs.length lo st).filterMap (its[·]?)).toArray := by
        unfold slicePick stpI
        rw [hn]
        simp
      rw [e5]
      have hl2 : ((stpI xs.length lo st).filterMap (vsL[·]?)).length ≤ sizeLine := by
        rw [(Das.picks q1 _).length]
        exact hzl
      have g := g1.trans g2
      refine ⟨.ref _, _, I5.laid (t' := s4.toks) (o := .lst ((stpI xs.length lo st).filterMap (vsL[·]?))) (fun b ob q => Heap.get?_push_of_some _ q) (Nat.le_refl _) ?_, rfl, kk _ _ _ (g.trans (Gr.laid g.fh (I5.hok.fresh (Nat.le_refl _)))) (.lst upd_same (((Das.picks q1 _).same g2.ff).same (Gr.laid g.fh (I5.hok.fresh (Nat.le_refl _))).ff))⟩
      exact ⟨hl2, _, 0, Vals.picks r _, Heap.get?_push_size _ rfl⟩
  · cases e0
end
/-! ### a, b, c = x, y, z -/
section
variable {X : Cx} {pos : Pos}
def gpar3 (i j l : Nat) (fs : En → Option (List D)) : En → Option Res := fun ρ => (fs ρ).bind fun xs => match xs with
  | [x, y, z] => some (.nx (((ρ.set i (.d x)).set j (.d y)).set l (.d z)))
  | _ => none
theorem psd_par3 {i j l : Nat} {x y z : Str} {a b c : Expr} {fs : En → Option (List D)} {px py pz pt : Pos} {kt k2 : Nat} {pt2 : Pos} (hc : X.calm = true) (hN : X.N.Nodup) (hi : X.N[i]? = some x) (hj : X.N[j]? = some y) (hl : X.N[l]? = some z) (hij : i ≠ j) (hil : i ≠ l) (hjl : j ≠ l)
    (hx : X.env.scope.names.lookup x = some .local) (hy : X.env.scope.names.lookup y = some .local) (hz : X.env.scope.names.lookup z = some .local) (ha : PA X [a, b, c] (tDA X.kf fs))
    (hw : swappedStores [.Tuple [.Name x px, .Name y py, .Name z pz] kt pt] (.Tuple [a, b, c] k2 pt2) X.env = pure (some [x, y, z]))
    (hs : swapsWithSole [.Tuple [.Name x px, .Name y py, .Name z pz] kt pt] (.Tuple [a, b, c] k2 pt2) pos.line X.env = pure false) :
    PS X (.Assign [.Tuple [.Name x px, .Name y py, .Name z pz] kt pt] (.Tuple [a, b, c] k2 pt2) pos) (sD X.kf (gpar3 i j l fs)) := PSi (ps_par3 hc hN hi hj hl hij hil hjl hx hy hz ha hw hs) fun E σ H h => by
  obtain ⟨W, F, ρ, r, sg, e, k⟩ := h
  obtain ⟨xs, ex, e⟩ := bind_some_iff e
  split at e
  · cases e
    refine ⟨_, F, ρ, _, sg.vw, ex, fun vs F' H' g q => ?_⟩
    cases q with
    | cons q1 q =>
      obtain ⟨v, w, rfl, q2, q3⟩ := q.two
      exact ⟨_, v, w, rfl, k _ F' H' ⟨sg.ok.grow g, (((sg.vw.grow g).set q1).set q2).set q3⟩⟩
  · cases e
/-- a, b = [], [] -/
def gset2L (i j : Nat) : En → Option Res := fun ρ => some (.nx ((ρ.set i (.l [])).set j (.l [])))
theorem psd_set2L {i j : Nat} {x y : Str} {px py pt pa pb : Pos} {kt k2 : Nat} {pt2 : Pos} (hc : X.calm = true) (hN : X.N.Nodup) (hi : X.N[i]? = some x) (hj : X.N[j]? = some y) (hij : i ≠ j)
    (hx : X.env.scope.names.lookup x = some .local) (hy : X.env.scope.names.lookup y = some .local)
    (hw : swappedStores [.Tuple [.Name x px, .Name y py] kt pt] (.Tuple [.List [] pa, .List [] pb] k2 pt2) X.env = pure (some [x, y]))
    (hs : swapsWithSole [.Tuple [.Name x px, .Name y py] kt pt] (.Tuple [.List [] pa, .List [] pb] k2 pt2) pos.line X.env = pure false) :
    PS X (.Assign [.Tuple [.Name x px, .Name y py] kt pt] (.Tuple [.List [] pa, .List [] pb] k2 pt2) pos) (sD X.kf (gset2L i j)) := PSi (ps_par hc hN hi hj hij hx hy (pa_cons (pe_lst pa_nil) (pa_cons (pe_lst pa_nil) pa_nil rfl) rfl) hw hs) fun E σ H h => by
  obtain ⟨W, F, ρ, r, sg, e, k⟩ := h
  cases e
  refine ⟨Nat.zero_le _, fun p hp => ⟨Nat.zero_le _, fun q hq => ⟨_, _, rfl, ?_⟩⟩⟩
  have s1 := sg.setNew (i := i) (xs := []) (Gr.side sg.vw.sub hp) hp upd_same (sg.vw.sub.free hp) .nil
  exact k _ F _ (s1.setNew (i := j) (xs := []) (Gr.side s1.vw.sub hq) hq upd_same (s1.vw.sub.free hq) .nil)
end
/-! ### -a -/
def negD : D → Option D
  | .int i => some (.int (-i))
  | _ => none
theorem ud_neg {X : Cx} : UnR X (unaryOp .USub) (r1D X.kf negD) := by
  intro pins s σ H x v Q I rx h
  obtain ⟨F, a, d, sf, ha, e, k⟩ := h
  unfold negD at e
  split at e
  · cases ha; cases e
    exact un_neg pins s σ H _ v Q I rx ⟨_, rfl, k _ F H (Gr.refl sf) (.int _)⟩
  · cases e
end DL
end
section
/-! tables: an instance of the class Table, with a list of its own -/
namespace DL
open PySem PySem.Spec L2
open PyProof.Rows hiding St

theorem TabC.uniq {K : Kf} {C C' : Addr} (h : TabC K C) (h' : TabC K C') : C = C' := by
  unfold TabC at h h'
  rw [h] at h'
  injection h' with h'
  injection h' with h'
  injection h'
theorem Sg.setNewT {K : Kf} {W : Wd} {F H F' H' : Hp} {σ : St} {ρ : En} {i : Nat} {d r : D} {os : List D} {C a dx l : Addr} (h : Sg K W F H σ ρ) (g : Gr F H F' H') (na : H a = none) (nd : H dx = none) (nl : H l = none) (fa : F' a = none) (fd : F' dx = none) (fl : F' l = none)
    (q : TabH K F' H' C a dx l d r os) : Sg K W F' H' (σ.set i (some (.ref a))) (ρ.set i (.t d r os)) := by
  have own : ∀ b, H b = none → W.H0 b = none := fun b hb => by
    cases z : W.H0 b with
    | none => rfl
    | some u => exact absurd hb (h.ok.live b (by rw [z]; exact fun w => nomatch w))
  exact ⟨h.ok.grow g, h.vw.setNewT g na nd nl fa fd fl (own a na) (own dx nd) (own l nl) q⟩
/-- what a call may change of a table at a whose list is at l -/
abbrev Lent (a l : Addr) : Addr → Prop := fun b => b = a ∨ b = l
theorem Sg.mutT {K : Kf} {W : Wd} {F H F' H' : Hp} {σ : St} {ρ : En} {i : Nat} {d r d' r' : D} {os os' : List D} {C a dx l : Addr} (h : Sg K W F H σ ρ) (e : ρ[i]? = some (.t d r os)) (es : σ[i]? = some (some (.ref a))) (q0 : TabH K F H C a dx l d r os)
    (ok : Ok0 ⟨H, F, Lent a l⟩ F' H') (fh : Same F' H') (q : TabH K F' H' C a dx l d' r' os') : Sg K W F' H' σ (ρ.set i (.t d' r' os')) := by
  obtain ⟨b, C2, dx2, l2, es2, q2, _, pa, pd, pl⟩ := h.vw.getT e
  rw [es] at es2
  cases es2
  obtain ⟨rfl, rfl, rfl⟩ := q0.uniq q2
  have own : ∀ b, H b = none → W.H0 b = none := fun b hb => by
    cases z : W.H0 b with
    | none => rfl
    | some u => exact absurd hb (h.ok.live b (by rw [z]; exact fun w => nomatch w))
  refine ⟨⟨fun b o hb z => ?_, fun b hb => ok.live b (h.ok.live b hb), h.ok.up.trans ok.up, fun b o z => ?_⟩, h.vw.mutT e es q0 ok.up fh (fun b o h1 h2 z => ok.same b o (fun w => w.elim h1 h2) z) ok.live ok.new q⟩
  · refine ok.same b o (fun w => ?_) (h.ok.same b o hb z)
    have pa' : W.H0 a = none := pa
    have pl' : W.H0 l = none := pl
    rcases w with rfl | rfl
    · rw [pa'] at z; cases z
    · rw [pl'] at z; cases z
  · rcases ok.new b o z with y | y
    · exact h.ok.new b o y
    · exact .inr (own b y)

/-! ### what the methods do -/
def evenD : D := .tup [.str [101, 118, 101, 110], .str []]
inductive TR where
  | ok (r : D) (os : List D)
  | no (c : Nat)
def layT (gn : List D → Option D) (d r : D) (os : List D) (n : D) : Option TR := match d, r, n with
  | .tup xs, .tup rs, .int i => if 0 ≤ i ∧ i < xs.length then (atI os (-1)).bind fun o => (gn [d, o, n]).bind fun h => if isNon h then some (.no 1) else if rs.length + 1 ≤ sizeLine ∧ os.length < sizeLine then some (.ok (.tup (rs ++ [n])) (os ++ [h])) else none
    else some (.no 0)
  | _, _, _ => none
def backT (r : D) (os : List D) : Option TR := match r with
  | .tup rs => if rs.isEmpty then some (.no 0) else if os.isEmpty then none else some (.ok (.tup (cut rs none (some (-1)))) os.dropLast)
  | _ => none
def comD (r : D) (os : List D) : Option D := (neD r (.tup [])).bind fun b => (truD b).bind fun t => if t then (atI os (-1)).bind fun o => eqD o evenD else some b
def finT (gs : List D → Option D) (d r : D) (os : List D) (m : D) : Option D := (comD r os).bind fun b => (truD b).bind fun t => if t then some (.tup []) else (atI os (-1)).bind fun o => gs [d, o, m]
def clsN : Nat → Str
  | 0 => "NoStone"
  | 1 => "NoFit"
  | _ => "NoText"
def ExC (K : Kf) (c : Nat) (C : Addr) : Prop := PySem.W.nsIn K.K mainGlobals (clsN c) = some (some (.ref C))
def EndW (K : Kf) (F H : Hp) (C a dx l : Addr) (d : D) (Q : VK) (E : XK) : TR → Prop
  | .ok r os => ∀ F' H', Ok0 ⟨H, F, Lent a l⟩ F' H' → Same F' H' → TabH K F' H' C a dx l d r os → Q .non H'
  | .no c => ∀ Ce F' H', ExC K c Ce → Gr F H F' H' → E (.ref Ce) none H'
/-- a method that changes the table, or refuses -/
def spW (K : Kf) (C : Addr) (n : Nat) (g : D → D → List D → List D → Option TR) : Sp := fun vs H Q E => vs.length = n + 1 ∧ ∃ F a dx l d r os us as t, vs = .ref a :: us ∧ Same F H ∧ TabH K F H C a dx l d r os ∧ F a = none ∧ F dx = none ∧ F l = none ∧ Das K F us as ∧ g d r os as = some t ∧ EndW K F H C a dx l d Q E t
/-- a method that tells something -/
def spR (K : Kf) (C : Addr) (n : Nat) (g : D → D → List D → List D → Option D) : Sp := fun vs H Q _ => vs.length = n + 1 ∧ ∃ F a dx l d r os us as x, vs = .ref a :: us ∧ Same F H ∧ TabH K F H C a dx l d r os ∧ F a = none ∧ F dx = none ∧ F l = none ∧ Das K F us as ∧ g d r os as = some x ∧ ∀ v F' H', Gr F H F' H' → Da K F' v x → Q v H'
/-- __init__ -/
def spI (K : Kf) (C : Addr) : Sp := fun vs H Q _ => ∃ F a dx v d, vs = [.ref a, v] ∧ Same F H ∧ F a = none ∧ H a = some (.ins C dx []) ∧ H dx = some (.own a) ∧ F dx = none ∧ Da K F v d ∧
  ∀ F' H' l, Ok0 ⟨H, F, fun b => b = a⟩ F' H' → Same F' H' → H l = none → F' l = none → TabH K F' H' C a dx l d (.tup []) [evenD] → Q .non H'
/-- what the class must say -/
structure TX (K : Kf) (C : Addr) : Prop where
  tc : TabC K C
  cl : Cls K.K C
  nd : NoAttr K.K C "deal"
  nl : NoAttr K.K C "laid"
  nr : NoAttr K.K C "rests"
def aLay (gn : List D → Option D) (d r : D) (os : List D) (as : List D) : Option TR := match as with | [n] => layT gn d r os n | _ => none
def aBack (d r : D) (os : List D) (as : List D) : Option TR := match as with | [] => backT r os | _ => none
def aRow (d r : D) (os : List D) (as : List D) : Option D := match as with | [] => some r | _ => none
def aOver (d r : D) (os : List D) (as : List D) : Option D := match as with | [] => atI os (-1) | _ => none
def aCom (d r : D) (os : List D) (as : List D) : Option D := match as with | [] => comD r os | _ => none
def aFin (gs : List D → Option D) (d r : D) (os : List D) (as : List D) : Option D := match as with | [m] => finT gs d r os m | _ => none
/-- told only where there is room -/
def gate {α : Type} (gl : List D → Option D) (g : D → D → List D → List D → Option α) (d r : D) (os : List D) (as : List D) : Option α := (gl [d]).bind fun _ => g d r os as
theorem gate_some {α : Type} {gl : List D → Option D} {g : D → D → List D → List D → Option α} {d r : D} {os as : List D} {x : α} (h : gate gl g d r os as = some x) : g d r os as = some x := by
  obtain ⟨_, _, h⟩ := bind_some_iff h
  exact h
/-- the table's methods, at level k -/
structure TabOk (P : Program) (w : World) (K : PySem.W.Frag) (mg : Str → Option Value) (base : Heap) (k : Nat) (gn gs gl : List D → Option D) (nf : Bool) (C : Addr) : Prop where
  lv : ∀ d x, gl [d] = some x → x = d ∧ 2 ≤ k
  mgC : mg "Table" = some (.ref C)
  tx : TX ⟨K, P, w⟩ C
  init : ∃ f fd, Mk K C f ∧ Binds K fd ["self", "deal"] [] ∧ FnOk P w K mg base CX0 1 f fd ["self", "deal"] (spI ⟨K, P, w⟩ C)
  lay : ∃ f fd, Meth K C "lay" f ∧ Binds K fd ["self", "number"] [] ∧ FnOk P w K mg base (L2N.CX P w) k f fd ["self", "number"] (spW ⟨K, P, w⟩ C 1 (gate gl (aLay gn)))
  row : ∃ f fd, Meth K C "row" f ∧ Binds K fd ["self"] [] ∧ FnOk P w K mg base CX0 1 f fd ["self"] (spR ⟨K, P, w⟩ C 0 aRow)
  over : ∃ f fd, Meth K C "over" f ∧ Binds K fd ["self"] [] ∧ FnOk P w K mg base CX0 1 f fd ["self"] (spR ⟨K, P, w⟩ C 0 aOver)
  com : ∃ f fd, Meth K C "is_common" f ∧ Binds K fd ["self"] [] ∧ FnOk P w K mg base CX0 1 f fd ["self"] (spR ⟨K, P, w⟩ C 0 aCom)
  back : ∃ f fd, Meth K C "back" f ∧ Binds K fd ["self"] [] ∧ FnOk P w K mg base (L2N.CX P w) 1 f fd ["self"] (spW ⟨K, P, w⟩ C 0 aBack)
  fin : nf = false → ∃ f fd, Meth K C "finish" f ∧ Binds K fd ["self", "most"] [] ∧ FnOk P w K mg base CX0 k f fd ["self", "most"] (spR ⟨K, P, w⟩ C 1 (gate gl (aFin gs)))
theorem tabF_no {v1 v2 : V} {l : Addr} {m : Str} (h1 : (m == ("deal" : Str)) = false) (h2 : (m == ("laid" : Str)) = false) (h3 : (m == ("rests" : Str)) = false) : (tabF v1 v2 l).lookup m = none := by
  unfold tabF
  rw [List.lookup_cons, h1]
  simp only
  rw [List.lookup_cons, h2]
  simp only
  rw [List.lookup_cons, h3]
  rfl
theorem tabF_deal {v1 v2 : V} {l : Addr} : (tabF v1 v2 l).lookup ("deal" : Str) = some v1 := by unfold tabF; rw [List.lookup_cons]; rfl
theorem tabF_laid {v1 v2 : V} {l : Addr} : (tabF v1 v2 l).lookup ("laid" : Str) = some v2 := by
  unfold tabF
  rw [List.lookup_cons, show (("laid" : Str) == ("deal" : Str)) = false by decide +kernel]
  simp only
  rw [List.lookup_cons]
  rfl
theorem tabF_rests {v1 v2 : V} {l : Addr} : (tabF v1 v2 l).lookup ("rests" : Str) = some (V.ref l) := by
  unfold tabF
  rw [List.lookup_cons, show (("rests" : Str) == ("deal" : Str)) = false by decide +kernel]
  simp only
  rw [List.lookup_cons, show (("rests" : Str) == ("laid" : Str)) = false by decide +kernel]
  simp only
  rw [List.lookup_cons]
  rfl

/-! ### a table's fields, read off a slot -/
section
variable {X : Cx} {e : Expr} {fe : En → Option D} {x : Str} {i : Nat} {C : Addr} {p ap pos cp : Pos}
def gtd (i : Nat) : En → Option D := fun ρ => match ρ[i]? with | some (.t d _ _) => some d | _ => none
def gtl (i : Nat) : En → Option D := fun ρ => match ρ[i]? with | some (.t _ r _) => some r | _ => none
def gto (i : Nat) : En → Option D := fun ρ => match ρ[i]? with | some (.t _ _ os) => atI os (-1) | _ => none
theorem pd_tdl (T : TX X.kf C) (hN : X.N[i]? = some x) (hv : Vis X.env.scope x) (hd : (x == ("__debug__" : Str)) = false) (hcd : (x == ("__classdict__" : Str)) = false) : PE X (.Attribute (.Name x p) "deal" ap) (tD X.kf (gtd i)) := by
  refine PEi (pe_fld (pe_var (i := i) hN hv hd hcd) rfl) fun σ H Q h => ?_
  obtain ⟨P, F, ρ, d, vw, e, k⟩ := h
  unfold gtd at e
  split at e
  · rename_i et
    cases e
    obtain ⟨a, C2, dx, l, es, q, _⟩ := vw.getT et
    obtain ⟨tc, v1, v2, vs, q1, q2, q3, q4, q5, q6⟩ := q
    obtain rfl := TabC.uniq T.tc tc
    exact ⟨_, es, a, C, dx, _, v1, rfl, q1, T.cl, T.nd, tabF_deal, k _ F H (Gr.refl vw.sub) q4⟩
  · cases e
theorem pd_tld (T : TX X.kf C) (hN : X.N[i]? = some x) (hv : Vis X.env.scope x) (hd : (x == ("__debug__" : Str)) = false) (hcd : (x == ("__classdict__" : Str)) = false) : PE X (.Attribute (.Name x p) "laid" ap) (tD X.kf (gtl i)) := by
  refine PEi (pe_fld (pe_var (i := i) hN hv hd hcd) rfl) fun σ H Q h => ?_
  obtain ⟨P, F, ρ, d, vw, e, k⟩ := h
  unfold gtl at e
  split at e
  · rename_i et
    cases e
    obtain ⟨a, C2, dx, l, es, q, _⟩ := vw.getT et
    obtain ⟨tc, v1, v2, vs, q1, q2, q3, q4, q5, q6⟩ := q
    obtain rfl := TabC.uniq T.tc tc
    exact ⟨_, es, a, C, dx, _, v2, rfl, q1, T.cl, T.nl, tabF_laid, k _ F H (Gr.refl vw.sub) q5⟩
  · cases e
theorem pd_tlt {j : Nat} {p1 p2 : Pos} (T : TX X.kf C) (hN : X.N[i]? = some x) (hv : Vis X.env.scope x) (hd : (x == ("__debug__" : Str)) = false) (hcd : (x == ("__classdict__" : Str)) = false) : PE X (.Subscript (.Attribute (.Name x p) "rests" ap) (.UnaryOp .USub (.Constant (.int 1) j p1) p2) pos) (tD X.kf (gto i)) := by
  refine PEi (pe_ix ix_list (pe_fld (pe_var (i := i) hN hv hd hcd) rfl) (pe_un un_neg pe_int) (fun _ _ => rfl)) fun σ H Q h => ?_
  obtain ⟨P, F, ρ, d, vw, e, k⟩ := h
  unfold gto at e
  split at e
  · rename_i et
    obtain ⟨a, C2, dx, l, es, q, _⟩ := vw.getT et
    obtain ⟨tc, v1, v2, vs, q1, q2, q3, q4, q5, q6⟩ := q
    obtain rfl := TabC.uniq T.tc tc
    obtain ⟨w, e5, e6⟩ := q6.atI e
    exact ⟨_, es, a, C, dx, _, _, rfl, q1, T.cl, T.nr, tabF_rests, 1, rfl, l, vs, -1, w, rfl, rfl, .of q3, e5, k w F H (Gr.refl vw.sub) e6⟩
  · cases e

/-! ### calls of methods -/
theorem ht_meth {x m : Str} {p apos pos : Pos} {args : List Expr} {env : Env} (hl : (apos.endLine == pos.line) = true) (hf : methodCallForm (args.length + 0) (backTo pos (starEach args env)) (backToKw pos (keywordEach [] env)) = true) :
    eval (.Call (.Attribute (.Name x p) m apos) args [] pos) env = (do
      let ov ← eval (.Name x p) env
      standAt apos.atName
      let (f, first) ← holding [ov] (getMethod ov m (do return (← importBound (.Name x p) env).getD true))
      callWith pos f first (backTo pos (starEach args env)) (backToKw pos (keywordEach [] env))) := by
  rw [arm_eval_Call]
  show (do
    let ov ← eval (.Name x p) env
    standAt apos.atName
    methodCall (.Name x p) m apos pos env ov (args.length + 0) (backTo pos (starEach args env)) (backToKw pos (keywordEach [] env))) = _
  unfold methodCall calleeOf methodCallPos
  simp only [hf, hl, if_true, Bool.not_true, Bool.or_true]
  rfl
theorem passN {X : Cx} : Passes (L2N.CX X.prog X.w) X E0 := fun _ _ _ _ _ _ _ h => by
  obtain ⟨_, _, _, _, _, _, _, _, _, _, _, _, z⟩ := h
  exact z.elim
/-- x.m(), a method that tells something -/
def gmr0 (g : D → D → List D → List D → Option D) (i : Nat) : En → Option D := fun ρ => match ρ[i]? with | some (.t d r os) => g d r os [] | _ => none
def gmr1 (g : D → D → List D → List D → Option D) (i : Nat) (f : En → Option D) : En → Option D := fun ρ => (f ρ).bind fun y => match ρ[i]? with | some (.t d r os) => g d r os [y] | _ => none
variable {k : Nat} {m : Str} {f : Addr} {fd : FuncData} {g : D → D → List D → List D → Option D} {ps : List Str}
theorem pd_mr0 (T : TX X.kf C) (hm : Meth X.K C m f) (hb : Binds X.K fd ps []) (G : FnOk X.prog X.w X.K X.mg X.base CX0 k f fd ps (spR X.kf C 0 g)) (hr : Room k X.A) (hn : ∀ v1 v2 l, (tabF v1 v2 l).lookup m = none)
    (hN : X.N[i]? = some x) (hv : Vis X.env.scope x) (hd : (x == ("__debug__" : Str)) = false) (hcd : (x == ("__classdict__" : Str)) = false) (hl : (ap.endLine == pos.line) = true) : PE X (.Call (.Attribute (.Name x p) m ap) [] [] pos) (tD X.kf (gmr0 g i)) := by
  refine PEi (pe_meth0 (pe_var (i := i) hN hv hd hcd) T.cl hm G hr hb .nil pass0 (ht_meth hl rfl)) fun σ H Q h => ?_
  obtain ⟨P, F, ρ, d, vw, e, kk⟩ := h
  unfold gmr0 at e
  split at e
  · rename_i et
    obtain ⟨a, C2, dx, l, es, q, ⟨f1, f2, f3⟩, _⟩ := vw.getT et
    obtain ⟨tc, v1, v2, vs, q1, q2⟩ := id q
    obtain rfl := TabC.uniq T.tc tc
    exact ⟨_, es, a, dx, _, rfl, q1, hn _ _ _, rfl, F, a, dx, l, _, _, _, [], [], d, rfl, vw.sub, q, f1, f2, f3, .nil, e, fun v F' H' g' q' => kk v F' H' g' q'⟩
  · cases e
theorem form1 {env : Env} (hst : starEach [e] env = [(false, eval e env)]) : methodCallForm ([e].length + 0) (backTo pos (starEach [e] env)) (backToKw pos (keywordEach [] env)) = true := by
  rw [hst]
  rfl
theorem pd_mr1 (T : TX X.kf C) (hm : Meth X.K C m f) (hb : Binds X.K fd ps []) (G : FnOk X.prog X.w X.K X.mg X.base CX0 k f fd ps (spR X.kf C 1 g)) (hr : Room k X.A) (hn : ∀ v1 v2 l, (tabF v1 v2 l).lookup m = none)
    (hN : X.N[i]? = some x) (hv : Vis X.env.scope x) (hd : (x == ("__debug__" : Str)) = false) (hcd : (x == ("__classdict__" : Str)) = false) (he : PE X e (tD X.kf fe)) (hst : starEach [e] X.env = [(false, eval e X.env)]) (hl : (ap.endLine == pos.line) = true) :
    PE X (.Call (.Attribute (.Name x p) m ap) [e] [] pos) (tD X.kf (gmr1 g i fe)) := by
  refine PEi (pe_meth (pe_var (i := i) hN hv hd hcd) T.cl hm G hr hb .nil pass0 (pa_cons he pa_nil hst) hst rfl (ht_meth hl (form1 hst))) fun σ H Q h => ?_
  obtain ⟨P, F, ρ, d, vw, e, kk⟩ := h
  obtain ⟨y, ey, e⟩ := bind_some_iff e
  split at e
  · rename_i et
    obtain ⟨a, C2, dx, l, es, q, ⟨f1, f2, f3⟩, _⟩ := vw.getT et
    obtain ⟨tc, v1, v2, vs, q1, q2⟩ := id q
    obtain rfl := TabC.uniq T.tc tc
    refine ⟨_, es, a, dx, _, rfl, q1, hn _ _ _, P, F, ρ, y, vw, ey, fun v F1 H1 g1 w1 => ?_⟩
    obtain ⟨a', C3, dx', l', es', q', ⟨f1', f2', f3'⟩, _⟩ := (vw.grow g1).getT et
    rw [es] at es'
    cases es'
    obtain rfl := TabC.uniq T.tc q'.1
    exact ⟨rfl, F1, a, dx', l', _, _, _, [v], [y], d, rfl, g1.fh, q', f1', f2', f3', .cons w1 .nil, e, fun v F' H' g' q' => kk v F' H' (g1.trans g') q'⟩
  · cases e
variable {gw : D → D → List D → List D → Option TR}
def gmw0 (g : D → D → List D → List D → Option TR) (i : Nat) : En → Option Res := fun ρ => match ρ[i]? with
  | some (.t d r os) => (g d r os []).bind fun t => match t with | .ok r' os' => some (.nx (ρ.set i (.t d r' os'))) | .no _ => none
  | _ => none
def gmw1 (g : D → D → List D → List D → Option TR) (i : Nat) (f : En → Option D) : En → Option Res := fun ρ => (f ρ).bind fun y => match ρ[i]? with
  | some (.t d r os) => (g d r os [y]).bind fun t => match t with | .ok r' os' => some (.nx (ρ.set i (.t d r' os'))) | .no _ => none
  | _ => none
theorem psd_mw0 (T : TX X.kf C) (hm : Meth X.K C m f) (hb : Binds X.K fd ps []) (G : FnOk X.prog X.w X.K X.mg X.base (L2N.CX X.prog X.w) k f fd ps (spW X.kf C 0 gw)) (hr : Room k X.A) (hn : ∀ v1 v2 l, (tabF v1 v2 l).lookup m = none)
    (hN : X.N[i]? = some x) (hv : Vis X.env.scope x) (hd : (x == ("__debug__" : Str)) = false) (hcd : (x == ("__classdict__" : Str)) = false) (hl : (ap.endLine == cp.line) = true) : PS X (.Expr (.Call (.Attribute (.Name x p) m ap) [] [] cp) pos) (sD X.kf (gmw0 gw i)) := by
  refine PSi (ps_expr (pe_meth0 (pe_var (i := i) hN hv hd hcd) T.cl hm G hr hb .nil passN (ht_meth hl rfl)) rfl) fun E σ H h => ?_
  obtain ⟨W, F, ρ, r, sg, e, kk⟩ := h
  unfold gmw0 at e
  split at e
  · rename_i et
    obtain ⟨a, C2, dx, l, es, q, ⟨f1, f2, f3⟩, _⟩ := sg.vw.getT et
    obtain ⟨tc, v1, v2, vs, q1, q2⟩ := id q
    obtain rfl := TabC.uniq T.tc tc
    obtain ⟨t, ht, e⟩ := bind_some_iff e
    split at e
    · cases e
      exact ⟨_, es, a, dx, _, rfl, q1, hn _ _ _, rfl, F, a, dx, l, _, _, _, [], [], _, rfl, sg.vw.sub, q, f1, f2, f3, .nil, ht, fun F' H' ok fh q' => kk σ F' H' (sg.mutT et es q ok fh q')⟩
    · cases e
  · cases e
theorem psd_mw1 (T : TX X.kf C) (hm : Meth X.K C m f) (hb : Binds X.K fd ps []) (G : FnOk X.prog X.w X.K X.mg X.base (L2N.CX X.prog X.w) k f fd ps (spW X.kf C 1 gw)) (hr : Room k X.A) (hn : ∀ v1 v2 l, (tabF v1 v2 l).lookup m = none)
    (hN : X.N[i]? = some x) (hv : Vis X.env.scope x) (hd : (x == ("__debug__" : Str)) = false) (hcd : (x == ("__classdict__" : Str)) = false) (he : PE X e (tD X.kf fe)) (hst : starEach [e] X.env = [(false, eval e X.env)]) (hl : (ap.endLine == cp.line) = true) :
    PS X (.Expr (.Call (.Attribute (.Name x p) m ap) [e] [] cp) pos) (sD X.kf (gmw1 gw i fe)) := by
  refine PSi (ps_expr (pe_meth (pe_var (i := i) hN hv hd hcd) T.cl hm G hr hb .nil passN (pa_cons he pa_nil hst) hst rfl (ht_meth hl (form1 hst))) rfl) fun E σ H h => ?_
  obtain ⟨W, F, ρ, r, sg, e, kk⟩ := h
  obtain ⟨y, ey, e⟩ := bind_some_iff e
  split at e
  · rename_i et
    obtain ⟨a, C2, dx, l, es, q, ⟨f1, f2, f3⟩, _⟩ := sg.vw.getT et
    obtain ⟨tc, v1, v2, vs, q1, q2⟩ := id q
    obtain rfl := TabC.uniq T.tc tc
    obtain ⟨t, ht, e⟩ := bind_some_iff e
    split at e
    · cases e
      refine ⟨_, es, a, dx, _, rfl, q1, hn _ _ _, _, F, ρ, y, sg.vw, ey, fun v F1 H1 g1 w1 => ?_⟩
      have sg1 := sg.grow g1
      obtain ⟨a', C3, dx', l', es', q', ⟨f1', f2', f3'⟩, _⟩ := sg1.vw.getT et
      rw [es] at es'
      cases es'
      obtain rfl := TabC.uniq T.tc q'.1
      exact ⟨rfl, F1, a, dx', l', _, _, _, [v], [y], _, rfl, g1.fh, q', f1', f2', f3', .cons w1 .nil, ht, fun F' H' ok fh q'' => kk σ F' H' (sg1.mutT et es q' ok fh q'')⟩
    · cases e
  · cases e
/-- x = Table(e) -/
def gmkT (i : Nat) (f : En → Option D) : En → Option Res := fun ρ => (f ρ).map fun d => .nx (ρ.set i (.t d (.tup []) [evenD]))
theorem psd_mkT {y : Str} {p' : Pos} (T : TX X.kf C) (hM : Mk X.K C f) (hb : Binds X.K fd ["self", "deal"] []) (G : FnOk X.prog X.w X.K X.mg X.base CX0 1 f fd ["self", "deal"] (spI X.kf C)) (hr : Room 2 X.A) (hg : Gl X y) (hm : X.mg y = some (.ref C)) (hdb : (y == ("__debug__" : Str)) = false)
    (hNd : X.N.Nodup) (hi : X.N[i]? = some x) (hx : Loc X.env.scope x) (hf : X.fn x = true ∨ X.env.scope.names.lookup x = some .local) (he : PE X e (tD X.kf fe)) (hst : starEach [e] X.env = [(false, eval e X.env)]) :
    PS X (.Assign [.Name x p'] (.Call (.Name y p) [e] [] cp) pos) (sD X.kf (gmkT i fe)) := by
  refine PSi (ps_set hNd hi hx (pe_make hM G hr hg hm hb .nil pass0 (pa_cons he pa_nil hst) hdb hst rfl) rfl hf) fun E σ H h => ?_
  obtain ⟨W, F, ρ, r, sg, e, kk⟩ := h
  obtain ⟨y, ey, rfl⟩ := Option.map_eq_some_iff.mp e
  refine ⟨_, F, ρ, y, sg.vw, ey, fun v F1 H1 g1 w1 => ?_⟩
  intro a dx na nd ne
  have s1 : Same H1 (upd (upd H1 dx (.own a)) a (.ins C dx [])) := fun b o z => by
    rw [upd_ne (ne_of_none z na), upd_ne (ne_of_none z nd)]
    exact z
  have s0 : Same F1 (upd (upd H1 dx (.own a)) a (.ins C dx [])) := g1.fh.trans s1
  have sg1 := sg.grow g1
  have fa : F1 a = none := g1.fh.free na
  have fd' : F1 dx = none := g1.fh.free nd
  refine ⟨F1, a, dx, v, y, rfl, s0, fa, upd_same, by rw [upd_ne ne, upd_same], fd', w1, fun F2 H2 l ok fh nl fl q => ⟨rfl, ?_⟩⟩
  have nl' : H1 l = none := s1.free nl
  have g2 : Gr F1 H1 F2 H2 := by
    refine ⟨fun b o z => ok.same b o (fun w => ?_) (s1 b o z), ok.up, fh, fun b o z => ?_⟩
    · subst w
      rw [na] at z
      cases z
    · rcases ok.new b o z with w | w
      · exact .inl w
      · exact .inr (s1.free w)
  have live : ∀ b, F1 b = none → (upd (upd H1 dx (.own a)) a (.ins C dx [])) b ≠ none → F2 b = none := fun b h1 h2 => by
    cases w : F2 b with
    | none => rfl
    | some o =>
      rcases ok.new b o w with z | z
      · have z : F1 b = some o := z
        rw [h1] at z; cases z
      · exact absurd z h2
  have fa2 : F2 a = none := live a fa (by rw [upd_same]; exact fun z => nomatch z)
  have fd2 : F2 dx = none := live dx fd' (by rw [upd_ne ne, upd_same]; exact fun z => nomatch z)
  exact kk _ F2 H2 (sg1.setNewT g2 na nd nl' fa2 fd2 fl q)
theorem pe_none {f : En → Option D} (h : ∀ ρ, f ρ = none) : PE X e (tD X.kf f) := ⟨fun pins s σ H Q I w => by
  obtain ⟨P, F, ρ, d, vw, e, k⟩ := w
  rw [h] at e
  cases e⟩
theorem ps_none {st : Stmt} {f : En → Option Res} (h : ∀ ρ, f ρ = none) : PS X st (sD X.kf f) := ⟨fun pins s σ H Q I w => by
  obtain ⟨W, F, ρ, r, sg, e, k⟩ := w
  rw [h] at e
  cases e⟩
theorem tD_imp {K : Kf} {f f' : En → Option D} (h : ∀ ρ d, f ρ = some d → f' ρ = some d) {σ : St} {H : Hp} {Q : VK} (w : tD K f σ H Q) : tD K f' σ H Q := by
  obtain ⟨P, F, ρ, d, vw, e, k⟩ := w
  exact ⟨P, F, ρ, d, vw, h ρ d e, k⟩
theorem sD_imp {K : Kf} {f f' : En → Option Res} (h : ∀ ρ d, f ρ = some d → f' ρ = some d) {E : Ends} {σ : St} {H : Hp} (w : sD K f E σ H) : sD K f' E σ H := by
  obtain ⟨W, F, ρ, d, sg, e, k⟩ := w
  exact ⟨W, F, ρ, d, sg, h ρ d e, k⟩
/-! the nodes, by the table's facts -/
variable {gn gs gl : List D → Option D} {nf : Bool}
theorem gl_none (T : TabOk X.prog X.w X.K X.mg X.base k gn gs gl nf C) (hk : ¬ 2 ≤ k) (d : D) : gl [d] = none := by
  cases e : gl [d] with
  | none => rfl
  | some x => exact absurd (T.lv d x e).2 hk
theorem gmr0_gate {ρ : En} {d : D} (h : gmr0 (gate gl g) i ρ = some d) : gmr0 g i ρ = some d := by
  unfold gmr0 at h ⊢
  split at h
  · exact gate_some h
  · cases h
theorem gmr0_none (T : TabOk X.prog X.w X.K X.mg X.base k gn gs gl nf C) (hk : ¬ 2 ≤ k) (ρ : En) : gmr0 (gate gl g) i ρ = none := by
  unfold gmr0
  split
  · unfold gate
    rw [gl_none T hk]
    rfl
  · rfl
theorem pd_row (T : TabOk X.prog X.w X.K X.mg X.base k gn gs gl nf C) (hr : Room k X.A) (hN : X.N[i]? = some x) (hv : Vis X.env.scope x) (hd : (x == ("__debug__" : Str)) = false) (hcd : (x == ("__classdict__" : Str)) = false) (hl : (ap.endLine == pos.line) = true) :
    PE X (.Call (.Attribute (.Name x p) "row" ap) [] [] pos) (tD X.kf (gmr0 (gate gl aRow) i)) := by
  by_cases hk : 2 ≤ k
  · obtain ⟨f, fd, h1, h2, h3⟩ := T.row
    exact PEi (pd_mr0 T.tx h1 h2 h3 (hr.mono (by omega)) (fun _ _ _ => tabF_no (by decide +kernel) (by decide +kernel) (by decide +kernel)) hN hv hd hcd hl) fun _ _ _ w => tD_imp (fun _ _ h => gmr0_gate h) w
  · exact pe_none fun ρ => gmr0_none T hk ρ
theorem pd_ovr (T : TabOk X.prog X.w X.K X.mg X.base k gn gs gl nf C) (hr : Room k X.A) (hN : X.N[i]? = some x) (hv : Vis X.env.scope x) (hd : (x == ("__debug__" : Str)) = false) (hcd : (x == ("__classdict__" : Str)) = false) (hl : (ap.endLine == pos.line) = true) :
    PE X (.Call (.Attribute (.Name x p) "over" ap) [] [] pos) (tD X.kf (gmr0 (gate gl aOver) i)) := by
  by_cases hk : 2 ≤ k
  · obtain ⟨f, fd, h1, h2, h3⟩ := T.over
    exact PEi (pd_mr0 T.tx h1 h2 h3 (hr.mono (by omega)) (fun _ _ _ => tabF_no (by decide +kernel) (by decide +kernel) (by decide +kernel)) hN hv hd hcd hl) fun _ _ _ w => tD_imp (fun _ _ h => gmr0_gate h) w
  · exact pe_none fun ρ => gmr0_none T hk ρ
theorem pd_com (T : TabOk X.prog X.w X.K X.mg X.base k gn gs gl nf C) (hr : Room k X.A) (hN : X.N[i]? = some x) (hv : Vis X.env.scope x) (hd : (x == ("__debug__" : Str)) = false) (hcd : (x == ("__classdict__" : Str)) = false) (hl : (ap.endLine == pos.line) = true) :
    PE X (.Call (.Attribute (.Name x p) "is_common" ap) [] [] pos) (tD X.kf (gmr0 (gate gl aCom) i)) := by
  by_cases hk : 2 ≤ k
  · obtain ⟨f, fd, h1, h2, h3⟩ := T.com
    exact PEi (pd_mr0 T.tx h1 h2 h3 (hr.mono (by omega)) (fun _ _ _ => tabF_no (by decide +kernel) (by decide +kernel) (by decide +kernel)) hN hv hd hcd hl) fun _ _ _ w => tD_imp (fun _ _ h => gmr0_gate h) w
  · exact pe_none fun ρ => gmr0_none T hk ρ
theorem pd_fin (T : TabOk X.prog X.w X.K X.mg X.base k gn gs gl nf C) (hnf : nf = false) (hr : Room k X.A) (hN : X.N[i]? = some x) (hv : Vis X.env.scope x) (hd : (x == ("__debug__" : Str)) = false) (hcd : (x == ("__classdict__" : Str)) = false) (he : PE X e (tD X.kf fe)) (hst : starEach [e] X.env = [(false, eval e X.env)]) (hl : (ap.endLine == pos.line) = true) :
    PE X (.Call (.Attribute (.Name x p) "finish" ap) [e] [] pos) (tD X.kf (gmr1 (gate gl (aFin gs)) i fe)) := by
  obtain ⟨f, fd, h1, h2, h3⟩ := T.fin hnf
  exact pd_mr1 T.tx h1 h2 h3 hr (fun _ _ _ => tabF_no (by decide +kernel) (by decide +kernel) (by decide +kernel)) hN hv hd hcd he hst hl
theorem psd_lay (T : TabOk X.prog X.w X.K X.mg X.base k gn gs gl nf C) (hr : Room k X.A) (hN : X.N[i]? = some x) (hv : Vis X.env.scope x) (hd : (x == ("__debug__" : Str)) = false) (hcd : (x == ("__classdict__" : Str)) = false) (he : PE X e (tD X.kf fe)) (hst : starEach [e] X.env = [(false, eval e X.env)]) (hl : (ap.endLine == cp.line) = true) :
    PS X (.Expr (.Call (.Attribute (.Name x p) "lay" ap) [e] [] cp) pos) (sD X.kf (gmw1 (gate gl (aLay gn)) i fe)) := by
  obtain ⟨f, fd, h1, h2, h3⟩ := T.lay
  exact psd_mw1 T.tx h1 h2 h3 hr (fun _ _ _ => tabF_no (by decide +kernel) (by decide +kernel) (by decide +kernel)) hN hv hd hcd he hst hl
theorem gmw0_gate {ρ : En} {r : Res} (h : gmw0 (gate gl gw) i ρ = some r) : gmw0 gw i ρ = some r := by
  unfold gmw0 at h ⊢
  split at h
  · obtain ⟨t, ht, h⟩ := bind_some_iff h
    rw [gate_some ht]
    exact h
  · cases h
theorem psd_back (T : TabOk X.prog X.w X.K X.mg X.base k gn gs gl nf C) (hr : Room k X.A) (hN : X.N[i]? = some x) (hv : Vis X.env.scope x) (hd : (x == ("__debug__" : Str)) = false) (hcd : (x == ("__classdict__" : Str)) = false) (hl : (ap.endLine == cp.line) = true) :
    PS X (.Expr (.Call (.Attribute (.Name x p) "back" ap) [] [] cp) pos) (sD X.kf (gmw0 (gate gl aBack) i)) := by
  by_cases hk : 2 ≤ k
  · obtain ⟨f, fd, h1, h2, h3⟩ := T.back
    exact PSi (psd_mw0 T.tx h1 h2 h3 (hr.mono (by omega)) (fun _ _ _ => tabF_no (by decide +kernel) (by decide +kernel) (by decide +kernel)) hN hv hd hcd hl) fun _ _ _ w => sD_imp (fun _ _ h => gmw0_gate h) w
  · refine ps_none fun ρ => ?_
    unfold gmw0
    split
    · unfold gate
      rw [gl_none T hk]
      rfl
    · rfl
def gmkG (gl : List D → Option D) (i : Nat) (f : En → Option D) : En → Option Res := fun ρ => (f ρ).bind fun d => (gl [d]).map fun _ => .nx (ρ.set i (.t d (.tup []) [evenD]))
theorem psd_mkG {p' : Pos} (T : TabOk X.prog X.w X.K X.mg X.base k gn gs gl nf C) (hr : Room k X.A) (hg : Gl X "Table") (hNd : X.N.Nodup) (hi : X.N[i]? = some x) (hx : Loc X.env.scope x) (hf : X.fn x = true ∨ X.env.scope.names.lookup x = some .local) (he : PE X e (tD X.kf fe)) (hst : starEach [e] X.env = [(false, eval e X.env)]) :
    PS X (.Assign [.Name x p'] (.Call (.Name "Table" p) [e] [] cp) pos) (sD X.kf (gmkG gl i fe)) := by
  by_cases hk : 2 ≤ k
  · obtain ⟨f, fd, h1, h2, h3⟩ := T.init
    refine PSi (psd_mkT T.tx h1 h2 h3 (hr.mono hk) hg T.mgC (by decide) hNd hi hx hf he hst) fun _ _ _ w => sD_imp (fun ρ r h => ?_) w
    obtain ⟨d, ed, h⟩ := bind_some_iff h
    obtain ⟨z, _, rfl⟩ := Option.map_eq_some_iff.mp h
    unfold gmkT
    rw [ed]
    rfl
  · refine ps_none fun ρ => ?_
    unfold gmkG
    cases fe ρ with
    | none => rfl
    | some d =>
      show (gl [d]).map _ = none
      rw [gl_none T hk]
      rfl
end
end DL
end
section
/-! tables that are told deeds, new tables -/
namespace DL
open PySem PySem.Spec L2
open PyProof.Rows hiding St
def wordL : Nat → List Nat
  | 0 => [110, 111, 32, 115, 116, 111, 110, 101]
  | 1 => [110, 111, 32, 102, 105, 116]
  | _ => [110, 111, 32, 116, 101, 120, 116]
theorem Gr.keepN {F H F' H' : Hp} {b : Addr} (g : Gr F H F' H') (fb : F b = none) (hb : H b ≠ none) : F' b = none := by
  cases e : F' b with
  | none => rfl
  | some o =>
    rcases g.new b o e with z | z
    · rw [fb] at z; cases z
    · exact absurd z hb
/-- what a deed tells, and what stands behind it -/
def tlR (r : D) (os : List D) : TR → D × D × List D
  | .ok r' os' => (.non, r', os')
  | .no c => (.str (wordL c), r, os)
def gTold (gl gn : List D → Option D) (d r : D) (os : List D) (n : D) : Option (D × D × List D) := (if isNon n = true then gate gl aBack d r os [] else gate gl (aLay gn) d r os [n]).map (tlR r os)
def spT (K : Kf) (C : Addr) (g : D → D → List D → D → Option (D × D × List D)) : Sp := fun vs H Q _ => vs.length = 2 ∧ ∃ F a dx l d r os v n x, vs = [.ref a, v] ∧ Same F H ∧ TabH K F H C a dx l d r os ∧ F a = none ∧ F dx = none ∧ F l = none ∧ Da K F v n ∧ g d r os n = some x ∧
  ∀ u F' H', Ok0 ⟨H, F, Lent a l⟩ F' H' → Same F' H' → TabH K F' H' C a dx l d x.2.1 x.2.2 → Da K F' u x.1 → Q u H'
def ToldOk (P : Program) (w : World) (K : PySem.W.Frag) (mg : Str → Option Value) (base : Heap) (k : Nat) (gl gn : List D → Option D) (C : Addr) : Prop :=
  ∃ f fd, mg "_law_told" = some (.ref f) ∧ PySem.W.keepIn K (.ref f) = true ∧ Binds K fd ["table", "number"] [] ∧ FnOk P w K mg base CX0 k f fd ["table", "number"] (spT ⟨K, P, w⟩ C (gTold gl gn))
section
variable {X : Cx} {e e2 : Expr} {fe f2 : En → Option D} {fb : En → Option Res} {x : Str} {i : Nat} {C : Addr} {p px ap pos cp p3 : Pos} {k : Nat} {f : Addr} {fd : FuncData} {gn gs gl : List D → Option D} {nf : Bool}
def bool1 : D → Option Bool
  | .bl b => some b
  | _ => none
/-- if _law_told(x, e) != e2: body -/
def gtol (g : D → D → List D → D → Option (D × D × List D)) (i : Nat) (fe f2 : En → Option D) (fb : En → Option Res) : En → Option Res := fun ρ => (fe ρ).bind fun n => match ρ[i]? with
  | some (.t d r os) => (g d r os n).bind fun y => (f2 (ρ.set i (.t d y.2.1 y.2.2))).bind fun z => (neD y.1 z).bind fun b => (bool1 b).bind fun b => if b then fb (ρ.set i (.t d y.2.1 y.2.2)) else some (.nx (ρ.set i (.t d y.2.1 y.2.2)))
  | _ => none
theorem psd_tol {body : List Stmt} (T : TX X.kf C) (O : ToldOk X.prog X.w X.K X.mg X.base k gl gn C) (hr : Room k X.A) (hu : X.A.units + 65 < cLine) (hg : Gl X "_law_told") (hN : X.N[i]? = some x) (hv : Vis X.env.scope x) (hd : (x == ("__debug__" : Str)) = false) (hcd : (x == ("__classdict__" : Str)) = false)
    (he : PE X e (tD X.kf fe)) (hst : starEach [e] X.env = [(false, eval e X.env)]) (h2 : PE X e2 (tD X.kf f2)) (hm : behindInMarks .NotEq e2 = false) (hb : PSs X body (sD X.kf fb)) :
    PS X (.If (.Compare (.Call (.Name "_law_told" p) [.Name x px, e] [] cp) [.NotEq] [e2] p3) body [] pos) (sD X.kf (gtol (gTold gl gn) i fe f2 fb)) := by
  obtain ⟨f, fd, m1, m2, m3, G⟩ := O
  have hst2 : starEach [.Name x px, e] X.env = (false, eval (.Name x px) X.env) :: starEach [e] X.env := rfl
  refine PSi (ps_if (pt_cmpR (od_ne hu) (pe_call G hr hg m1 m2 m3 .nil pass0 (pa_cons (pe_var (i := i) hN hv hd hcd) (pa_cons he pa_nil hst) hst2) (by decide) hst2 (by rw [hst]; rfl)) h2 hm) hb pss_nil) fun E σ H h => ?_
  obtain ⟨W, F, ρ, res, sg, e, kk⟩ := h
  obtain ⟨n, en, e⟩ := bind_some_iff e
  split at e
  · rename_i d r os et
    obtain ⟨y, ey, e⟩ := bind_some_iff e
    obtain ⟨z, ez, e⟩ := bind_some_iff e
    obtain ⟨b, eb, e⟩ := bind_some_iff e
    obtain ⟨b', eb', e⟩ := bind_some_iff e
    obtain rfl : b = .bl b' := by
      cases b with
      | bl _ => cases eb'; rfl
      | _ => cases eb'
    obtain ⟨a, C2, dx, l, es, q, _⟩ := sg.vw.getT et
    obtain rfl := TabC.uniq T.tc q.1
    refine ⟨_, es, _, F, ρ, n, sg.vw, en, fun v F1 H1 g1 w1 => ?_⟩
    have sg1 := sg.grow g1
    obtain ⟨a', C3, dx', l', es', q', ⟨f1', f2', f3'⟩, _⟩ := sg1.vw.getT et
    rw [es] at es'
    cases es'
    obtain rfl := TabC.uniq T.tc q'.1
    refine ⟨rfl, F1, a, dx', l', d, r, os, v, n, y, rfl, g1.fh, q', f1', f2', f3', w1, ey, fun u F2 H2 ok fh q2 qu => ?_⟩
    have sg2 := sg1.mutT et es q' ok fh q2
    refine ⟨_, F2, _, z, sg2.vw, ez, fun v2 F3 H3 g3 q3 => ?_⟩
    refine ⟨F3, y.1, z, _, g3.fh, qu.same g3.ff, q3, eb, fun v4 F4 H4 g4 q4 => ?_⟩
    cases q4
    refine ⟨b', rfl, ?_⟩
    have sg4 := (sg2.grow g3).grow g4
    cases b' with
    | true => exact ⟨W, F4, _, res, sg4, e, kk⟩
    | false =>
      cases e
      exact kk σ F4 H4 sg4
  · cases e
/-- Table(e), new -/
def tNewT (K : Kf) (C : Addr) (fe : En → Option D) : TE := fun σ H Q => ∃ P F ρ d, Vw K P F H σ ρ ∧ fe ρ = some d ∧ ∀ a dx l F' H', Gr F H F' H' → H a = none → H dx = none → H l = none → F' a = none → F' dx = none → F' l = none → TabH K F' H' C a dx l d (.tup []) [evenD] → Q (.ref a) H'
theorem pe_newT (T : TX X.kf C) (hM : Mk X.K C f) (hb : Binds X.K fd ["self", "deal"] []) (G : FnOk X.prog X.w X.K X.mg X.base CX0 1 f fd ["self", "deal"] (spI X.kf C)) (hr : Room 2 X.A) (hg : Gl X "Table") (hm : X.mg "Table" = some (.ref C))
    (he : PE X e (tD X.kf fe)) (hst : starEach [e] X.env = [(false, eval e X.env)]) : PE X (.Call (.Name "Table" p) [e] [] cp) (tNewT X.kf C fe) := by
  refine PEi (pe_make hM G hr hg hm hb .nil pass0 (pa_cons he pa_nil hst) (by decide) hst rfl) fun σ H Q h => ?_
  obtain ⟨P, F, ρ, y, vw, ey, kk⟩ := h
  refine ⟨P, F, ρ, y, vw, ey, fun v F1 H1 g1 w1 => ?_⟩
  intro a dx na nd ne
  have s1 : Same H1 (upd (upd H1 dx (.own a)) a (.ins C dx [])) := fun b o z => by
    rw [upd_ne (ne_of_none z na), upd_ne (ne_of_none z nd)]
    exact z
  have s0 : Same F1 (upd (upd H1 dx (.own a)) a (.ins C dx [])) := g1.fh.trans s1
  have fa : F1 a = none := g1.fh.free na
  have fd' : F1 dx = none := g1.fh.free nd
  refine ⟨F1, a, dx, v, y, rfl, s0, fa, upd_same, by rw [upd_ne ne, upd_same], fd', w1, fun F2 H2 l ok fh nl fl q => ⟨rfl, ?_⟩⟩
  have nl' : H1 l = none := s1.free nl
  have g2 : Gr F1 H1 F2 H2 := by
    refine ⟨fun b o z => ok.same b o (fun w => ?_) (s1 b o z), ok.up, fh, fun b o z => ?_⟩
    · subst w
      rw [na] at z
      cases z
    · rcases ok.new b o z with w | w
      · exact .inl w
      · exact .inr (s1.free w)
  have live : ∀ b, F1 b = none → (upd (upd H1 dx (.own a)) a (.ins C dx [])) b ≠ none → F2 b = none := fun b h1 h2 => by
    cases w : F2 b with
    | none => rfl
    | some o =>
      rcases ok.new b o w with z | z
      · have z : F1 b = some o := z
        rw [h1] at z; cases z
      · exact absurd z h2
  exact kk a dx l F2 H2 (g1.trans g2) (g1.hh.free na) (g1.hh.free nd) (g1.hh.free nl') (live a fa (by rw [upd_same]; exact fun z => nomatch z)) (live dx fd' (by rw [upd_ne ne, upd_same]; exact fun z => nomatch z)) fl q
/-- x, y = Table(e), () -/
def gmk2 (gl : List D → Option D) (i j : Nat) (fe : En → Option D) : En → Option Res := fun ρ => (fe ρ).bind fun d => (gl [d]).map fun _ => .nx ((ρ.set i (.t d (.tup []) [evenD])).set j (.d (.tup [])))
theorem psd_mk2 {j : Nat} {y : Str} {py pt : Pos} {kt k2 k3 : Nat} {pt2 p4 : Pos} (T : TabOk X.prog X.w X.K X.mg X.base k gn gs gl nf C) (hr : Room k X.A) (hg : Gl X "Table") (hc : X.calm = true) (hNd : X.N.Nodup) (hi : X.N[i]? = some x) (hj : X.N[j]? = some y) (hij : i ≠ j) (hx : X.env.scope.names.lookup x = some .local) (hy : X.env.scope.names.lookup y = some .local)
    (he : PE X e (tD X.kf fe)) (hst : starEach [e] X.env = [(false, eval e X.env)])
    (hw : swappedStores [.Tuple [.Name x px, .Name y py] kt pt] (.Tuple [.Call (.Name "Table" p) [e] [] cp, .Tuple [] k3 p4] k2 pt2) X.env = pure (some [x, y]))
    (hs : swapsWithSole [.Tuple [.Name x px, .Name y py] kt pt] (.Tuple [.Call (.Name "Table" p) [e] [] cp, .Tuple [] k3 p4] k2 pt2) pos.line X.env = pure false) :
    PS X (.Assign [.Tuple [.Name x px, .Name y py] kt pt] (.Tuple [.Call (.Name "Table" p) [e] [] cp, .Tuple [] k3 p4] k2 pt2) pos) (sD X.kf (gmk2 gl i j fe)) := by
  by_cases hk : 2 ≤ k
  · obtain ⟨f, fd, h1, h2, h3⟩ := T.init
    refine PSi (ps_par hc hNd hi hj hij hx hy (pa_cons (pe_newT T.tx h1 h2 h3 (hr.mono hk) hg T.mgC he hst) (pa_cons (pe_tup pa_nil) pa_nil)) hw hs) fun E σ H h => ?_
    obtain ⟨W, F, ρ, r, sg, e, kk⟩ := h
    obtain ⟨d, ed, e⟩ := bind_some_iff e
    obtain ⟨_, _, rfl⟩ := Option.map_eq_some_iff.mp e
    refine ⟨_, F, ρ, d, sg.vw, ed, fun a dx l F' H' g na nd nl fa fd' fl q => ?_⟩
    have sg1 := sg.setNewT (i := i) g na nd nl fa fd' fl q
    refine ⟨Nat.zero_le _, fun t ht => ?_⟩
    have g2 := Gr.laid (o := .tup []) g.fh ht
    have sg2 := sg1.grow g2
    exact ⟨_, _, rfl, kk _ _ _ ⟨sg2.ok, sg2.vw.set (.tup (.of upd_same) .nil)⟩⟩
  · refine ps_none fun ρ => ?_
    unfold gmk2
    cases fe ρ with
    | none => rfl
    | some d =>
      show (gl [d]).map _ = none
      rw [gl_none T hk]
      rfl
theorem ht_new {m : Str} {p apos pos cp : Pos} {args : List Expr} {env : Env} (hl : (apos.endLine == pos.line) = true) (hf : methodCallForm (args.length + 0) (backTo pos (starEach args env)) (backToKw pos (keywordEach [] env)) = true) :
    eval (.Call (.Attribute (.Call (.Name "Table" p) [e] [] cp) m apos) args [] pos) env = (do
      let ov ← eval (.Call (.Name "Table" p) [e] [] cp) env
      standAt apos.atName
      let (f, first) ← holding [ov] (getMethod ov m (do return (← importBound (.Call (.Name "Table" p) [e] [] cp) env).getD true))
      callWith pos f first (backTo pos (starEach args env)) (backToKw pos (keywordEach [] env))) := by
  rw [arm_eval_Call]
  show (do
    let ov ← eval (.Call (.Name "Table" p) [e] [] cp) env
    standAt apos.atName
    methodCall (.Call (.Name "Table" p) [e] [] cp) m apos pos env ov (args.length + 0) (backTo pos (starEach args env)) (backToKw pos (keywordEach [] env))) = _
  unfold methodCall calleeOf methodCallPos
  simp only [hf, hl, if_true, Bool.not_true, Bool.or_true]
  rfl
/-- Table(e).is_common(), Table(e).finish(e2) -/
def gnewC (gl : List D → Option D) (fe : En → Option D) : En → Option D := fun ρ => (fe ρ).bind fun d => (gl [d]).bind fun _ => comD (.tup []) [evenD]
def gnewF (gl gs : List D → Option D) (fe f2 : En → Option D) : En → Option D := fun ρ => (fe ρ).bind fun d => (f2 ρ).bind fun m => gate gl (aFin gs) d (.tup []) [evenD] [m]
theorem pd_newC (T : TabOk X.prog X.w X.K X.mg X.base k gn gs gl nf C) (hr : Room k X.A) (hg : Gl X "Table") (he : PE X e (tD X.kf fe)) (hst : starEach [e] X.env = [(false, eval e X.env)]) (hl : (ap.endLine == pos.line) = true) :
    PE X (.Call (.Attribute (.Call (.Name "Table" p) [e] [] cp) "is_common" ap) [] [] pos) (tD X.kf (gnewC gl fe)) := by
  by_cases hk : 2 ≤ k
  · obtain ⟨f, fd, h1, h2, h3⟩ := T.init
    obtain ⟨f', fd', i1, i2, i3⟩ := T.com
    refine PEi (pe_meth0 (pe_newT T.tx h1 h2 h3 (hr.mono hk) hg T.mgC he hst) T.tx.cl i1 i3 (hr.mono (by omega)) i2 .nil pass0 (ht_new hl rfl)) fun σ H Q h => ?_
    obtain ⟨P, F, ρ, z, vw, e, kk⟩ := h
    obtain ⟨d, ed, e⟩ := bind_some_iff e
    obtain ⟨_, _, e⟩ := bind_some_iff e
    refine ⟨P, F, ρ, d, vw, ed, fun a dx l F' H' g na nd nl fa fd' fl q => ?_⟩
    obtain ⟨tc, v1, v2, vs, q1, q2⟩ := id q
    exact ⟨a, dx, _, rfl, q1, tabF_no (by decide +kernel) (by decide +kernel) (by decide +kernel), rfl, F', a, dx, l, _, _, _, [], [], z, rfl, g.fh, q, fa, fd', fl, .nil, e, fun v F2 H2 g2 q2 => kk v F2 H2 (g.trans g2) q2⟩
  · refine pe_none fun ρ => ?_
    unfold gnewC
    cases fe ρ with
    | none => rfl
    | some d =>
      show (gl [d]).bind _ = none
      rw [gl_none T hk]
      rfl
theorem pd_newF (T : TabOk X.prog X.w X.K X.mg X.base k gn gs gl nf C) (hnf : nf = false) (hr : Room k X.A) (hg : Gl X "Table") (he : PE X e (tD X.kf fe)) (hst : starEach [e] X.env = [(false, eval e X.env)]) (h2 : PE X e2 (tD X.kf f2)) (hst2 : starEach [e2] X.env = [(false, eval e2 X.env)]) (hl : (ap.endLine == pos.line) = true) :
    PE X (.Call (.Attribute (.Call (.Name "Table" p) [e] [] cp) "finish" ap) [e2] [] pos) (tD X.kf (gnewF gl gs fe f2)) := by
  by_cases hk : 2 ≤ k
  · obtain ⟨f, fd, h1, hb1, h3⟩ := T.init
    obtain ⟨f', fd', i1, i2, i3⟩ := T.fin hnf
    refine PEi (pe_meth (pe_newT T.tx h1 hb1 h3 (hr.mono hk) hg T.mgC he hst) T.tx.cl i1 i3 hr i2 .nil pass0 (pa_cons h2 pa_nil hst2) hst2 rfl (ht_new hl (form1 hst2))) fun σ H Q h => ?_
    obtain ⟨P, F, ρ, z, vw, e, kk⟩ := h
    obtain ⟨d, ed, e⟩ := bind_some_iff e
    obtain ⟨m, em, e⟩ := bind_some_iff e
    refine ⟨P, F, ρ, d, vw, ed, fun a dx l F' H' g na nd nl fa fd' fl q => ?_⟩
    obtain ⟨tc, v1, v2, vs, q1, q2⟩ := id q
    refine ⟨a, dx, _, rfl, q1, tabF_no (by decide +kernel) (by decide +kernel) (by decide +kernel), P, F', ρ, m, vw.grow g, em, fun v F2 H2 g2 w2 => ?_⟩
    exact ⟨rfl, F2, a, dx, l, _, _, _, [v], [m], z, rfl, g2.fh, q.grow g2, g2.keepN fa (by rw [q1]; exact fun z => nomatch z), g2.keepN fd' (by rw [q2.1]; exact fun z => nomatch z), g2.keepN fl (by rw [q2.2.1]; exact fun z => nomatch z), .cons w2 .nil, e, fun v F3 H3 g3 q3 => kk v F3 H3 (g.trans (g2.trans g3)) q3⟩
  · refine pe_none fun ρ => ?_
    unfold gnewF
    cases fe ρ with
    | none => rfl
    | some d =>
      cases f2 ρ with
      | none => rfl
      | some m =>
        show (gl [d]).bind _ = none
        rw [gl_none T hk]
        rfl
end
end DL
end
section
/-! own lists of own things -/
namespace DL
open PySem PySem.Spec L2
open PyProof.Rows hiding St
section
variable {K : Kf} {P : Addr → Prop} {F H : Hp} {σ : St} {ρ : En}
theorem OwEs.get : ∀ {vs : List V} {fs : List (List Addr)} {xs : List Ow} {j : Nat} {x : Ow}, OwEs K F H vs fs xs → xs[j]? = some x → ∃ v f, vs[j]? = some v ∧ fs[j]? = some f ∧ OwE K F H v f x
  | v :: vs, f :: fs, y :: xs, 0, x, h, e => by
    cases e
    exact ⟨v, f, rfl, rfl, h.1⟩
  | v :: vs, f :: fs, y :: xs, j + 1, x, h, e => OwEs.get (j := j) h.2 e
  | [], [], [], j, x, _, e => by cases e
  | [], [], _ :: _, _, _, h, _ => h.elim
  | [], _ :: _, _, _, _, h, _ => h.elim
  | _ :: _, [], _, _, _, h, _ => h.elim
  | _ :: _, _ :: _, [], _, _, h, _ => h.elim
theorem OwEs.lens : ∀ {vs : List V} {fs : List (List Addr)} {xs : List Ow}, OwEs K F H vs fs xs → vs.length = xs.length ∧ fs.length = xs.length
  | v :: vs, f :: fs, y :: xs, h => by
    have := OwEs.lens h.2
    simp only [List.length_cons]
    omega
  | [], [], [], _ => ⟨rfl, rfl⟩
  | [], [], _ :: _, h => h.elim
  | [], _ :: _, _, h => h.elim
  | _ :: _, [], _, h => h.elim
  | _ :: _, _ :: _, [], h => h.elim
theorem OwEs.put {F' H' : Hp} (gf : Same F F') : ∀ {vs : List V} {fs : List (List Addr)} {xs : List Ow} {j : Nat} {f : List Addr} {v : V} {y : Ow} {M : List Addr}, OwEs K F H vs fs xs → vs[j]? = some v → fs[j]? = some f → (∀ b ∈ M, b ∈ f) → fs.flatten.Nodup → (∀ b o, b ∉ M → H b = some o → H' b = some o) → OwE K F' H' v f y → OwEs K F' H' vs fs (xs.set j y)
  | w :: vs, g :: fs, z :: xs, 0, f, v, y, M, h, e1, e2, hM, nd, same, q => by
    cases e1
    cases e2
    rw [List.flatten_cons, List.nodup_append] at nd
    exact ⟨q, h.2.upto gf fun a o ha e => same a o (fun z => nd.2.2 a (hM a z) a ha rfl) e⟩
  | w :: vs, g :: fs, z :: xs, j + 1, f, v, y, M, h, e1, e2, hM, nd, same, q => by
    rw [List.flatten_cons, List.nodup_append] at nd
    have hf : f ∈ fs := List.mem_of_getElem? (by exact e2)
    refine ⟨h.1.upto gf fun a o ha e => same a o (fun z => nd.2.2 a ha a (List.mem_flatten.mpr ⟨f, hf, hM a z⟩) rfl) e, ?_⟩
    exact OwEs.put gf (j := j) h.2 e1 e2 hM nd.2.1 same q
  | [], [], [], j, _, _, _, _, _, e1, _, _, _, _, _ => by cases e1
  | [], [], _ :: _, _, _, _, _, _, h, _, _, _, _, _, _ => h.elim
  | [], _ :: _, _, _, _, _, _, _, h, _, _, _, _, _, _ => h.elim
  | _ :: _, [], _, _, _, _, _, _, h, _, _, _, _, _, _ => h.elim
  | _ :: _, _ :: _, [], _, _, _, _, _, h, _, _, _, _, _, _ => h.elim
/-- an own thing within the own list of slot i; it may be changed -/
theorem Vw.owAt {i j : Nat} {xs : List Ow} {x : Ow} (h : Vw K P F H σ ρ) (e : ρ[i]? = some (.ow xs)) (hj : xs[j]? = some x) : ∃ p vs v f, σ[i]? = some (some (.ref p)) ∧ H p = some (.lst vs) ∧ vs[j]? = some v ∧ vs.length = xs.length ∧ OwE K F H v f x ∧ (∀ b ∈ f, F b = none ∧ H b ≠ none ∧ P b) ∧
    ∀ F' H' y (M : List Addr), Same F F' → Same F' H' → (∀ b ∈ M, b ∈ f) → (∀ b o, b ∉ M → H b = some o → H' b = some o) → (∀ b, H b ≠ none → H' b ≠ none) → (∀ b o, F' b = some o → F b = some o ∨ H b = none) → OwE K F' H' v f y → Vw K P F' H' σ (ρ.set i (.ow (xs.set j y))) := by
  obtain ⟨fp, h1, h2, h3⟩ := h.sl
  have hi : i < ρ.length := (List.getElem?_eq_some_iff.mp e).1
  have hl : i < σ.length := by rw [h.len]; exact hi
  rcases h1 i _ σ[i] e (List.getElem?_eq_getElem hl) with ⟨z, _⟩ | ⟨v, e2, p, vs, fs, rfl, q1, q2, q3, q4⟩
  · cases z
  · obtain ⟨v, f, g1, g2, g3⟩ := q2.get hj
    have es : σ[i]? = some (some (.ref p)) := by rw [List.getElem?_eq_getElem hl, e2]
    have hf : ∀ b ∈ f, b ∈ fp i := fun b hb => by
      rw [q3]
      exact List.mem_cons_of_mem _ (List.mem_flatten.mpr ⟨f, List.mem_of_getElem? g2, hb⟩)
    refine ⟨p, vs, v, f, es, q1, g1, q2.lens.1, g3, fun b hb => h2 i b hi (hf b hb), fun F' H' y M ff fh hM same live new q => ?_⟩
    have nd := List.nodup_cons.mp q4
    refine ⟨fh, by rw [List.length_set]; exact h.len, fp, fun k s o e1 e3 => ?_, fun k b hk hb => ?_, fun k m b hk hm => ?_⟩
    · by_cases hki : k = i
      · subst hki
        rw [List.getElem?_set_self hi] at e1
        cases e1
        rw [es] at e3
        cases e3
        refine .inr ⟨_, rfl, p, vs, fs, rfl, same p _ (fun z => nd.1 ?_) q1, q2.put ff g1 g2 hM nd.2 same q, q3, q4⟩
        exact List.mem_flatten.mpr ⟨f, List.mem_of_getElem? g2, hM p z⟩
      · rw [List.getElem?_set_ne (Ne.symm hki)] at e1
        have hk : k < ρ.length := (List.getElem?_eq_some_iff.mp e1).1
        rcases h1 k s o e1 e3 with z | ⟨v, ev, z⟩
        · exact .inl z
        · exact .inr ⟨v, ev, z.upto ff fun b o hb e => same b o (fun z => hki (h3 k i b hk hi hb (hf b (hM b z)))) e⟩
    · rw [List.length_set] at hk
      obtain ⟨z1, z2, z3⟩ := h2 k b hk hb
      refine ⟨?_, live b z2, z3⟩
      cases w : F' b with
      | none => rfl
      | some o =>
        rcases new b o w with y | y
        · rw [z1] at y; cases y
        · exact absurd y z2
    · rw [List.length_set] at hk hm
      exact h3 k m b hk hm
/-- a slot is given new own things -/
theorem Vw.setNewG {i : Nat} {s : Sl} {v : V} {fn : List Addr} {F' H' : Hp} (h : Vw K P F H σ ρ) (g : Gr F H F' H') (nw : ∀ b ∈ fn, H b = none ∧ F' b = none ∧ H' b ≠ none ∧ P b) (q : OwnOk K F' H' v fn s) :
    Vw K P F' H' (σ.set i (some v)) (ρ.set i s) := by
  obtain ⟨fp', h1', h2', h3'⟩ := (h.grow g).sl
  obtain ⟨fp0, h10, h20, h30⟩ := h.sl
  refine ⟨g.fh, by rw [List.length_set, List.length_set]; exact h.len, fun j => if j = i then fn else fp0 j, fun j s' o e1 e2 => ?_, fun j b hj ha => ?_, fun j k b hj hk ha hb => ?_⟩
  · by_cases hji : j = i
    · subst hji
      have hl : j < ρ.length := by
        have := (List.getElem?_eq_some_iff.mp e1).1
        rwa [List.length_set] at this
      rw [List.getElem?_set_self hl] at e1
      rw [List.getElem?_set_self (by rw [h.len]; exact hl)] at e2
      cases e1
      cases e2
      exact .inr ⟨_, rfl, by simpa using q⟩
    · rw [List.getElem?_set_ne (Ne.symm hji)] at e1 e2
      simp only [hji, if_false]
      exact (h10 j s' o e1 e2).grow g
  · rw [List.length_set] at hj
    by_cases hji : j = i
    · simp only [hji, if_true] at ha
      exact ⟨(nw b ha).2.1, (nw b ha).2.2.1, (nw b ha).2.2.2⟩
    · simp only [hji, if_false] at ha
      obtain ⟨z1, z2, z3⟩ := h20 j b hj ha
      exact ⟨g.keepN z1 z2, fun w => z2 (g.hh.free w), z3⟩
  · rw [List.length_set] at hj hk
    by_cases hji : j = i
    · by_cases hki : k = i
      · rw [hji, hki]
      · simp only [hji, hki, if_true, if_false] at ha hb
        exact absurd (nw b ha).1 (h20 k b hk hb).2.1
    · by_cases hki : k = i
      · simp only [hji, hki, if_true, if_false] at ha hb
        exact absurd (nw b hb).1 (h20 j b hj ha).2.1
      · simp only [hji, hki, if_false] at ha hb
        exact h30 j k b hj hk ha hb
theorem Sg.own0 {W : Wd} (h : Sg K W F H σ ρ) {b : Addr} (hb : H b = none) : W.H0 b = none := by
  cases z : W.H0 b with
  | none => rfl
  | some u => exact absurd hb (h.ok.live b (by rw [z]; exact fun w => nomatch w))
theorem Sg.owAt {W : Wd} {i j : Nat} {xs : List Ow} {x : Ow} (h : Sg K W F H σ ρ) (e : ρ[i]? = some (.ow xs)) (hj : xs[j]? = some x) : ∃ p vs v f, σ[i]? = some (some (.ref p)) ∧ H p = some (.lst vs) ∧ vs[j]? = some v ∧ vs.length = xs.length ∧ OwE K F H v f x ∧ (∀ b ∈ f, F b = none ∧ H b ≠ none) ∧
    ∀ F' H' y (M : List Addr), Same F F' → Same F' H' → (∀ b ∈ M, b ∈ f) → (∀ b o, b ∉ M → H b = some o → H' b = some o) → (∀ b, H b ≠ none → H' b ≠ none) → (∀ b o, F' b = some o → F b = some o ∨ H b = none) → OwE K F' H' v f y → Sg K W F' H' σ (ρ.set i (.ow (xs.set j y))) := by
  obtain ⟨p, vs, v, f, h1, h2, h3, h4, h5, h6, h7⟩ := h.vw.owAt e hj
  refine ⟨p, vs, v, f, h1, h2, h3, h4, h5, fun b hb => ⟨(h6 b hb).1, (h6 b hb).2.1⟩, fun F' H' y M ff fh hM same live new q => ⟨⟨fun b o hb z => ?_, fun b hb => live b (h.ok.live b hb), h.ok.up.trans ff, fun b o z => ?_⟩, h7 F' H' y M ff fh hM same live new q⟩⟩
  · refine same b o (fun w => ?_) (h.ok.same b o hb z)
    have : W.H0 b = none := (h6 b (hM b w)).2.2
    rw [this] at z
    cases z
  · rcases new b o z with y | y
    · exact h.ok.new b o y
    · exact .inr (h.own0 y)
theorem Sg.setNewG {W : Wd} {i : Nat} {s : Sl} {v : V} {fn : List Addr} {F' H' : Hp} (h : Sg K W F H σ ρ) (g : Gr F H F' H') (nw : ∀ b ∈ fn, H b = none ∧ F' b = none ∧ H' b ≠ none) (q : OwnOk K F' H' v fn s) : Sg K W F' H' (σ.set i (some v)) (ρ.set i s) :=
  ⟨h.ok.grow g, h.vw.setNewG g (fun b hb => ⟨(nw b hb).1, (nw b hb).2.1, (nw b hb).2.2, h.own0 (nw b hb).1⟩) q⟩
end
end DL
end
section
/-! lists of own lists, lists of tables: the rules -/
namespace DL
open PySem PySem.Spec L2
open PyProof.Rows hiding St
section
variable {X : Cx} {e a b c : Expr} {fe fa fb fc : En → Option D} {x y : Str} {i j : Nat} {C : Addr} {p px py ap pos cp sp sp2 p2 p3 : Pos} {k : Nat} {f : Addr} {fd : FuncData} {gn gs gl : List D → Option D} {nf : Bool}
theorem at_nn {α : Type} {xs : List α} {n : Int} (h : 0 ≤ n) : atI xs n = xs[n.toNat]? := by
  obtain ⟨m, rfl⟩ := Int.eq_ofNat_of_zero_le h
  unfold L2.atI ixN
  rw [if_pos (by omega)]
  by_cases h : m < xs.length
  · rw [if_pos (by omega)]
    simp
  · rw [if_neg (by omega)]
    simp
    omega
/-- x[a].append(e), x a list of own lists -/
def putW (i : Nat) (ρ : En) (n d : D) : Option Res := match n, ρ[i]? with
  | .int k, some (.ow xs) => if 0 ≤ k then (match xs[k.toNat]? with
    | some (.l ys) => if ys.length < sizeLine then some (.nx (ρ.set i (.ow (xs.set k.toNat (.l (ys ++ [d])))))) else none
    | _ => none) else none
  | _, _ => none
theorem putW_some {ρ : En} {n d : D} {r : Res} (h : putW i ρ n d = some r) : ∃ (k : Int) (xs : List Ow) (ys : List D), n = .int k ∧ ρ[i]? = some (.ow xs) ∧ 0 ≤ k ∧ xs[k.toNat]? = some (.l ys) ∧ ys.length < sizeLine ∧ r = .nx (ρ.set i (.ow (xs.set k.toNat (.l (ys ++ [d]))))) := by
  unfold putW at h
  split at h
  · rename_i k xs e1
    split at h
    · rename_i hk
      split at h
      · rename_i ys e2
        split at h
        · rename_i hl
          cases h
          exact ⟨k, xs, ys, rfl, e1, hk, e2, hl, rfl⟩
        · cases h
      · cases h
    · cases h
  · cases h
def gappW (i : Nat) (fa fe : En → Option D) : En → Option Res := fun ρ => (fa ρ).bind fun n => (fe ρ).bind fun d => putW i ρ n d
theorem Sg.addW {K : Kf} {W : Wd} {F H : Hp} {σ : St} {ρ : En} {xs : List Ow} {ys : List D} {n : Nat} {d : D} {q : Addr} {vs : List V} {v w : V} (sg : Sg K W F H σ ρ) (e : ρ[i]? = some (.ow xs)) (hj : xs[n]? = some (.l ys)) (es : σ[i]? = some (some (.ref q))) (hq : H q = some (.lst vs)) (hv : vs[n]? = some v) (da : Da K F w d) :
    ∃ r us, v = .ref r ∧ H r = some (.lst us) ∧ us.length = ys.length ∧ Sg K W F (upd H r (.lst (us ++ [w]))) σ (ρ.set i (.ow (xs.set n (.l (ys ++ [d]))))) := by
  obtain ⟨p', vs', v', f', h1, h2, h3, h4, ⟨r, us, rfl, q1, q2, rfl⟩, h6, h7⟩ := sg.owAt e hj
  rw [es] at h1
  cases h1
  rw [hq] at h2
  cases h2
  rw [hv] at h3
  cases h3
  refine ⟨r, us, rfl, q1, q2.length, h7 F _ _ [r] (Same.refl _) (fun b o z => ?_) (fun b hb => hb) (fun b o hb z => ?_) (fun b hb => ?_) (fun b o z => .inl z) ⟨r, us ++ [w], rfl, upd_same, q2.append (.cons da .nil), rfl⟩⟩
  · have : b ≠ r := fun z' => by
      rw [z', (h6 r (List.mem_singleton_self r)).1] at z
      cases z
    rw [upd_ne this]
    exact sg.vw.sub b o z
  · rw [upd_ne (fun z' => hb (by rw [z']; exact List.mem_singleton_self r))]
    exact z
  · by_cases hbr : b = r
    · rw [hbr, upd_same]; exact fun z => nomatch z
    · rw [upd_ne hbr]; exact hb
theorem psd_appW (hN : X.N[i]? = some x) (hv : Vis X.env.scope x) (hd : (x == ("__debug__" : Str)) = false) (hcd : (x == ("__classdict__" : Str)) = false) (ha : PE X a (tD X.kf fa)) (hpl : PlainIx a) (he : PE X e (tD X.kf fe)) (hst : starEach [e] X.env = [(false, eval e X.env)]) (hline : (ap.endLine == cp.line) = true) :
    PS X (.Expr (.Call (.Attribute (.Subscript (.Name x p) a sp) "append" ap) [e] [] cp) pos) (sD X.kf (gappW i fa fe)) := by
  refine PSi (ps_expr (pe_bm PySem.F.plainAttrs_list PySem.F.slot_list_append PySem.F.type_list_append mt_append (pe_ix ix_list (pe_var (i := i) hN hv hd hcd) ha hpl) (pa_cons he pa_nil hst) rfl (by rw [hst]; rfl) hline hst rfl) rfl) fun E σ H h => ?_
  obtain ⟨W, F, ρ, r, sg, e, kk⟩ := h
  obtain ⟨n, en, e⟩ := bind_some_iff e
  obtain ⟨d, ed, e⟩ := bind_some_iff e
  obtain ⟨m, xs, ys, rfl, ew, hm, ej, hl, rfl⟩ := putW_some e
  obtain ⟨q, vs, v, f, es, hq, hvj, _, ⟨r, us, rfl, q1, q2, rfl⟩, _⟩ := sg.owAt ew ej
  refine ⟨_, es, _, F, ρ, _, sg.vw, en, fun v1 F1 H1 g1 w1 => ?_⟩
  cases w1
  refine ⟨q, vs, m, .ref r, rfl, rfl, .of (g1.hh _ _ hq), by rw [at_nn hm]; exact hvj, .inl ⟨rfl, us, .of (g1.hh _ _ q1)⟩, ?_⟩
  have sg1 := sg.grow g1
  refine ⟨_, F1, ρ, d, sg1.vw, ed, fun v2 F2 H2 g2 w2 => ?_⟩
  have sg2 := sg1.grow g2
  obtain ⟨r', us', er, q3, q4, sg3⟩ := sg2.addW ew ej es (g2.hh _ _ (g1.hh _ _ hq)) hvj w2
  cases er
  exact ⟨r, us', v2, rfl, rfl, q3, by rw [q4]; exact hl, kk σ F2 _ sg3⟩
/-- x, y = [[], [], []], [[], [], []] -/
abbrev ow3 : Sl := .ow [.l [], .l [], .l []]
def gset2W (i j : Nat) : En → Option Res := fun ρ => some (.nx ((ρ.set i ow3).set j ow3))
theorem ne_new {H : Hp} {q r : Addr} {o : HO} (h : upd H q o r = none) : r ≠ q ∧ H r = none := by
  have : r ≠ q := fun z => by
    rw [z, upd_same] at h
    cases h
  exact ⟨this, by rw [upd_ne this] at h; exact h⟩
theorem Sg.new3 {K : Kf} {W : Wd} {F H : Hp} {σ : St} {ρ : En} {q0 q1 q2 q : Addr} (sg : Sg K W F H σ ρ) (h0 : H q0 = none) (h1 : upd H q0 (.lst []) q1 = none) (h2 : upd (upd H q0 (.lst [])) q1 (.lst []) q2 = none) (h3 : upd (upd (upd H q0 (.lst [])) q1 (.lst [])) q2 (.lst []) q = none) :
    Sg K W F (upd (upd (upd (upd H q0 (.lst [])) q1 (.lst [])) q2 (.lst [])) q (.lst [.ref q0, .ref q1, .ref q2])) (σ.set i (some (.ref q))) (ρ.set i ow3) := by
  have g0 : Gr F H F (upd H q0 (.lst [])) := Gr.side sg.vw.sub h0
  have g1 : Gr F (upd H q0 (.lst [])) F (upd (upd H q0 (.lst [])) q1 (.lst [])) := Gr.side g0.fh h1
  have g2 : Gr F (upd (upd H q0 (.lst [])) q1 (.lst [])) F (upd (upd (upd H q0 (.lst [])) q1 (.lst [])) q2 (.lst [])) := Gr.side g1.fh h2
  have g3 : Gr F (upd (upd (upd H q0 (.lst [])) q1 (.lst [])) q2 (.lst [])) F (upd (upd (upd (upd H q0 (.lst [])) q1 (.lst [])) q2 (.lst [])) q (.lst [.ref q0, .ref q1, .ref q2])) := Gr.side g2.fh h3
  obtain ⟨n10, z1⟩ := ne_new h1
  obtain ⟨n21, h2'⟩ := ne_new h2
  obtain ⟨n20, z2⟩ := ne_new h2'
  obtain ⟨n32, h3'⟩ := ne_new h3
  obtain ⟨n31, h3''⟩ := ne_new h3'
  obtain ⟨n30, z3⟩ := ne_new h3''
  have f : ∀ b, H b = none → F b = none := fun b hb => sg.vw.sub.free hb
  refine sg.setNewG (fn := [q, q0, q1, q2]) (((g0.trans g1).trans g2).trans g3) (fun b hb => ?_) ⟨q, [.ref q0, .ref q1, .ref q2], [[q0], [q1], [q2]], rfl, upd_same, ⟨⟨q0, [], rfl, ?_, .nil, rfl⟩, ⟨q1, [], rfl, ?_, .nil, rfl⟩, ⟨q2, [], rfl, ?_, .nil, rfl⟩, trivial⟩, rfl, ?_⟩
  · simp only [List.mem_cons, List.not_mem_nil, or_false] at hb
    rcases hb with rfl | rfl | rfl | rfl
    · exact ⟨z3, f _ z3, by rw [upd_same]; exact fun z => nomatch z⟩
    · exact ⟨h0, f _ h0, by rw [upd_ne n30.symm, upd_ne n20.symm, upd_ne n10.symm, upd_same]; exact fun z => nomatch z⟩
    · exact ⟨z1, f _ z1, by rw [upd_ne n31.symm, upd_ne n21.symm, upd_same]; exact fun z => nomatch z⟩
    · exact ⟨z2, f _ z2, by rw [upd_ne n32.symm, upd_same]; exact fun z => nomatch z⟩
  · rw [upd_ne n30.symm, upd_ne n20.symm, upd_ne n10.symm, upd_same]
  · rw [upd_ne n31.symm, upd_ne n21.symm, upd_same]
  · rw [upd_ne n32.symm, upd_same]
  · simp [n10.symm, n20.symm, n21.symm, n30, n31, n32]
theorem psd_set2W {pt pa pb p4 p5 p6 p7 p8 p9 pt2 : Pos} {kt k2 : Nat} (hc : X.calm = true) (hN : X.N.Nodup) (hi : X.N[i]? = some x) (hj : X.N[j]? = some y) (hij : i ≠ j)
    (hx : X.env.scope.names.lookup x = some .local) (hy : X.env.scope.names.lookup y = some .local)
    (hw : swappedStores [.Tuple [.Name x px, .Name y py] kt pt] (.Tuple [.List [.List [] p4, .List [] p5, .List [] p6] pa, .List [.List [] p7, .List [] p8, .List [] p9] pb] k2 pt2) X.env = pure (some [x, y]))
    (hs : swapsWithSole [.Tuple [.Name x px, .Name y py] kt pt] (.Tuple [.List [.List [] p4, .List [] p5, .List [] p6] pa, .List [.List [] p7, .List [] p8, .List [] p9] pb] k2 pt2) pos.line X.env = pure false) :
    PS X (.Assign [.Tuple [.Name x px, .Name y py] kt pt] (.Tuple [.List [.List [] p4, .List [] p5, .List [] p6] pa, .List [.List [] p7, .List [] p8, .List [] p9] pb] k2 pt2) pos) (sD X.kf (gset2W i j)) := by
  refine PSi (ps_par hc hN hi hj hij hx hy (pa_cons (pe_lst (pa_cons (pe_lst pa_nil) (pa_cons (pe_lst pa_nil) (pa_cons (pe_lst pa_nil) pa_nil rfl) rfl) rfl)) (pa_cons (pe_lst (pa_cons (pe_lst pa_nil) (pa_cons (pe_lst pa_nil) (pa_cons (pe_lst pa_nil) pa_nil rfl) rfl) rfl)) pa_nil rfl) rfl) hw hs) fun E σ H h => ?_
  obtain ⟨W, F, ρ, r, sg, e, kk⟩ := h
  cases e
  have h3 : 3 ≤ sizeLine := by decide
  refine ⟨Nat.zero_le _, fun q0 e0 => ⟨Nat.zero_le _, fun q1 e1 => ⟨Nat.zero_le _, fun q2 e2 => ⟨h3, fun q e3 => ?_⟩⟩⟩⟩
  have s1 := sg.new3 (i := i) e0 e1 e2 e3
  refine ⟨Nat.zero_le _, fun r0 d0 => ⟨Nat.zero_le _, fun r1 d1 => ⟨Nat.zero_le _, fun r2 d2 => ⟨h3, fun r d3 => ⟨_, _, rfl, ?_⟩⟩⟩⟩⟩
  exact kk _ F _ (s1.new3 (i := j) d0 d1 d2 d3)
/-- the row of a table that lives on -/
def decL (g : List D → Option D) (d r : D) (os : List D) (c : D) : Option (D × D × List D) := (g [d, r, .lst os, c]).bind fun z => match z with
  | .tup [x, r', .lst os'] => some (x, r', os')
  | _ => none
def LivOk (P : Program) (w : World) (K : PySem.W.Frag) (mg : Str → Option Value) (base : Heap) (k : Nat) (g : List D → Option D) (C : Addr) : Prop :=
  ∃ f fd, mg "_law_lives" = some (.ref f) ∧ PySem.W.keepIn K (.ref f) = true ∧ Binds K fd ["table", "cell"] [] ∧ FnOk P w K mg base CX0 k f fd ["table", "cell"] (spT ⟨K, P, w⟩ C (decL g))
theorem Vw.apartW {K : Kf} {P : Addr → Prop} {F H : Hp} {σ : St} {ρ : En} {xs ts : List Ow} {n : Nat} {d r : D} {os : List D} {q q2 a dx l : Addr} {vt : List V} (h : Vw K P F H σ ρ) (hij : i ≠ j) (e1 : ρ[i]? = some (.ow xs)) (s1 : σ[i]? = some (some (.ref q))) (e2 : ρ[j]? = some (.ow ts)) (ej : ts[n]? = some (.t d r os))
    (s2 : σ[j]? = some (some (.ref q2))) (h2 : H q2 = some (.lst vt)) (hv : vt[n]? = some (.ref a)) (tb : TabH K F H C a dx l d r os) : q ≠ l := by
  obtain ⟨fp, k1, k2, k3⟩ := h.sl
  have hi : i < ρ.length := (List.getElem?_eq_some_iff.mp e1).1
  have hj : j < ρ.length := (List.getElem?_eq_some_iff.mp e2).1
  rcases k1 i _ _ e1 s1 with ⟨z, _⟩ | ⟨v, ev, p, vs, fs, rfl, _, _, q3, _⟩
  · cases z
  · cases ev
    rcases k1 j _ _ e2 s2 with ⟨z, _⟩ | ⟨v, ev, p, vs2, fs2, rfl, w1, w2, w3, _⟩
    · cases z
    · cases ev
      rw [h2] at w1
      cases w1
      obtain ⟨v, f, y1, y2, a', C', dx', l', y3, y4, y5⟩ := w2.get ej
      rw [hv] at y1
      cases y1
      cases y3
      obtain ⟨_, _, rfl⟩ := tb.uniq y4
      intro z
      refine hij (k3 i j q hi hj (by rw [q3]; exact List.mem_cons_self) ?_)
      rw [w3]
      exact List.mem_cons_of_mem _ (List.mem_flatten.mpr ⟨f, List.mem_of_getElem? y2, by rw [y5, z]; simp⟩)
/-- x[a].append(_law_lives(y[b], e)) -/
def gappV (g : D → D → List D → D → Option (D × D × List D)) (i j : Nat) (fa fb fe : En → Option D) : En → Option Res := fun ρ => (fa ρ).bind fun n => (fb ρ).bind fun m => (fe ρ).bind fun c => match m, ρ[j]? with
  | .int m, some (.ow ts) => if 0 ≤ m then (match ts[m.toNat]? with
    | some (.t d r os) => (g d r os c).bind fun y => putW i (ρ.set j (.ow (ts.set m.toNat (.t d y.2.1 y.2.2)))) n y.1
    | _ => none) else none
  | _, _ => none
theorem gappV_some {g : D → D → List D → D → Option (D × D × List D)} {ρ : En} {res : Res} (h : gappV g i j fa fb fe ρ = some res) : ∃ n m c ts d r os z, fa ρ = some n ∧ fb ρ = some (.int m) ∧ fe ρ = some c ∧ ρ[j]? = some (.ow ts) ∧ 0 ≤ m ∧ ts[m.toNat]? = some (.t d r os) ∧ g d r os c = some z ∧ putW i (ρ.set j (.ow (ts.set m.toNat (.t d z.2.1 z.2.2)))) n z.1 = some res := by
  obtain ⟨n, h1, h2⟩ := bind_some_iff h
  obtain ⟨m', h3, h4⟩ := bind_some_iff h2
  obtain ⟨c, h5, h6⟩ := bind_some_iff h4
  clear h h2 h4
  split at h6
  · rename_i h7
    split at h6
    · rename_i h8
      split at h6
      · rename_i h9
        obtain ⟨z, h10, h11⟩ := bind_some_iff h6
        exact ⟨n, _, c, _, _, _, _, z, h1, h3, h5, h7, h8, h9, h10, h11⟩
      · cases h6
    · cases h6
  · cases h6
theorem psd_appV {g : List D → Option D} (T : TX X.kf C) (O : LivOk X.prog X.w X.K X.mg X.base k g C) (hr : Room k X.A) (hg : Gl X "_law_lives") (hij : i ≠ j) (hN : X.N[i]? = some x) (hv : Vis X.env.scope x) (hd : (x == ("__debug__" : Str)) = false) (hcd : (x == ("__classdict__" : Str)) = false)
    (hN2 : X.N[j]? = some y) (hv2 : Vis X.env.scope y) (hd2 : (y == ("__debug__" : Str)) = false) (hcd2 : (y == ("__classdict__" : Str)) = false) (ha : PE X a (tD X.kf fa)) (hpl : PlainIx a) (hb : PE X b (tD X.kf fb)) (hpl2 : PlainIx b) (he : PE X e (tD X.kf fe)) (hst : starEach [e] X.env = [(false, eval e X.env)]) (hline : (ap.endLine == cp.line) = true) :
    PS X (.Expr (.Call (.Attribute (.Subscript (.Name x p) a sp) "append" ap) [.Call (.Name "_law_lives" px) [.Subscript (.Name y py) b sp2, e] [] p2] [] cp) pos) (sD X.kf (gappV (decL g) i j fa fb fe)) := by
  obtain ⟨f, fd, m1, m2, m3, G⟩ := O
  have hst2 : starEach [.Subscript (.Name y py) b sp2, e] X.env = (false, eval (.Subscript (.Name y py) b sp2) X.env) :: starEach [e] X.env := rfl
  refine PSi (ps_expr (pe_bm PySem.F.plainAttrs_list PySem.F.slot_list_append PySem.F.type_list_append mt_append (pe_ix ix_list (pe_var (i := i) hN hv hd hcd) ha hpl) (pa_cons (pe_call G hr hg m1 m2 m3 .nil pass0 (pa_cons (pe_ix ix_list (pe_var (i := j) hN2 hv2 hd2 hcd2) hb hpl2) (pa_cons he pa_nil hst) hst2) (by decide) hst2 (by rw [hst]; rfl)) pa_nil rfl) rfl rfl hline rfl rfl) rfl) fun E σ H h => ?_
  obtain ⟨W, F, ρ, res, sg, e, kk⟩ := h
  obtain ⟨n, m, c, ts, d, r, os, z, en, em, ec, et, hm, ett, ez, e⟩ := gappV_some e
  obtain ⟨l, xs, ys, rfl, ew, hl0, ej, hl, rfl⟩ := putW_some e
  rw [List.getElem?_set_ne hij.symm] at ew
  obtain ⟨q, vs, v, f1, es, hq, hvj, _, ⟨r1, us, rfl, q1, q2, rfl⟩, _⟩ := sg.owAt ew ej
  refine ⟨_, es, _, F, ρ, _, sg.vw, en, fun v1 F1 H1 g1 w1 => ?_⟩
  cases w1
  refine ⟨q, vs, l, .ref r1, rfl, rfl, .of (g1.hh _ _ hq), by rw [at_nn hl0]; exact hvj, .inl ⟨rfl, us, .of (g1.hh _ _ q1)⟩, ?_⟩
  have sg1 := sg.grow g1
  obtain ⟨qt, vt, w, ft, est, hqt, hvt, _, ⟨a0, C2, dx, ll, rfl, tb, rfl⟩, _⟩ := sg1.owAt et ett
  obtain rfl := TabC.uniq T.tc tb.1
  refine ⟨_, est, _, F1, ρ, _, sg1.vw, em, fun v2 F2 H2 g2 w2 => ?_⟩
  cases w2
  refine ⟨qt, vt, m, .ref a0, rfl, rfl, .of (g2.hh _ _ hqt), by rw [at_nn hm]; exact hvt, ?_⟩
  have sg2 := sg1.grow g2
  refine ⟨_, F2, ρ, c, sg2.vw, ec, fun v3 F3 H3 g3 w3 => ?_⟩
  have sg3 := sg2.grow g3
  obtain ⟨qt', vt', w', ft', est', hqt', hvt', _, ⟨a1, C3, dx', l', e5, tb', rfl⟩, hfr, hmt⟩ := sg3.owAt et ett
  rw [est] at est'
  cases est'
  rw [g3.hh _ _ (g2.hh _ _ hqt)] at hqt'
  cases hqt'
  rw [hvt] at hvt'
  cases hvt'
  cases e5
  obtain rfl := TabC.uniq T.tc tb'.1
  refine ⟨rfl, F3, a0, dx', l', d, r, os, v3, c, z, rfl, g3.fh, tb', (hfr _ (by simp)).1, (hfr _ (by simp)).1, (hfr _ (by simp)).1, w3, ez, fun u F4 H4 ok fh q4 qu => ?_⟩
  have sg4 := hmt F4 H4 (.t d z.2.1 z.2.2) [a0, l'] ok.up fh (fun b hb => by
    simp only [List.mem_cons, List.not_mem_nil, or_false] at hb
    rcases hb with rfl | rfl <;> simp) (fun b o hb e => ok.same b o (fun w => hb (by
      rcases w with rfl | rfl <;> simp)) e) ok.live ok.new ⟨a0, C, dx', l', rfl, q4, rfl⟩
  have ew4 : (ρ.set j (.ow (ts.set m.toNat (.t d z.2.1 z.2.2))))[i]? = some (.ow xs) := by rw [List.getElem?_set_ne hij.symm]; exact ew
  obtain ⟨qa, va, wa, fa', esa, hqa, hva, _, _⟩ := sg4.owAt ew4 ej
  rw [es] at esa
  cases esa
  have g123 := (g1.trans g2).trans g3
  have hvs : H4 q = some (.lst vs) := by
    refine ok.same q _ (fun w => ?_) (g123.hh _ _ hq)
    have tq := id tb'
    obtain ⟨_, v1, v2, vs', o1, _⟩ := tq
    rcases w with w | w
    · rw [w] at hq
      have := g123.hh _ _ hq
      rw [o1] at this
      cases this
    · exact sg3.vw.apartW hij ew es et ett est (g3.hh _ _ (g2.hh _ _ hqt)) hvt tb' w
  obtain ⟨r', us', er, q3, q5, sg5⟩ := sg4.addW ew4 ej es hvs hvj qu
  cases er
  exact ⟨r1, us', u, rfl, rfl, q3, by rw [q5]; exact hl, kk σ F4 _ sg5⟩
end
end DL
end
section
/-! a new list of tables -/
namespace DL
open PySem PySem.Spec L2
open PyProof.Rows hiding St
theorem OwEs.snoc {K : Kf} {F H : Hp} : ∀ {vs : List V} {fs : List (List Addr)} {xs : List Ow} {v : V} {f : List Addr} {x : Ow}, OwEs K F H vs fs xs → OwE K F H v f x → OwEs K F H (vs ++ [v]) (fs ++ [f]) (xs ++ [x])
  | [], [], [], _, _, _, _, q => ⟨q, trivial⟩
  | _ :: _, _ :: _, _ :: _, _, _, _, h, q => ⟨h.1, OwEs.snoc h.2 q⟩
  | [], [], _ :: _, _, _, _, h, _ => h.elim
  | [], _ :: _, _, _, _, _, h, _ => h.elim
  | _ :: _, [], _, _, _, _, h, _ => h.elim
  | _ :: _, _ :: _, [], _, _, _, h, _ => h.elim
abbrev newT (d : D) : Ow := .t d (.tup []) [evenD]
theorem tLc_T {K : Kf} {C : Addr} {fi : En → Option (List D)} {t : Tg} {fe : En → Option D} {vs : List Nat} (hsl : ∀ i ∈ t.slots, i ∈ vs) {σ : St} {H : Hp} {Q : VK} (h : ∃ P F ρ ys, Vw K P F H σ ρ ∧ gcomp vs fi t gyes fe ρ = some ys ∧
    ∀ q as fs F' H', Gr F H F' H' → H q = none → F' q = none → H' q = some (.lst as) → OwEs K F' H' as fs (ys.map newT) → (∀ b ∈ fs.flatten, H b = none ∧ F' b = none ∧ H' b ≠ none) → (q :: fs.flatten).Nodup → Q (.ref q) H') :
    tLc (iD K fi) (gD K t) (tDT K gyes) (tNewT K C fe) vs σ H Q := by
  obtain ⟨P, F, ρ, ys, vw, e, k⟩ := h
  obtain ⟨ds, ed, e⟩ := bind_some_iff e
  split at e
  · rename_i hsz
    refine ⟨P, F, ρ, ds, vw, ed, fun J F1 H1 g1 yl Dd hD => ?_⟩
    have fD : F1 Dd = none := g1.fh.free hD
    let In : Nat → Hp → Prop := fun i Hc => ∃ Fc acc fs accd rest, Same H1 Hc ∧ Same F1 Fc ∧ Same Fc Hc ∧ (∀ a o, Fc a = some o → F1 a = some o ∨ H1 a = none) ∧ Fc Dd = none ∧ Hc Dd = some (.lst acc) ∧ OwEs K Fc Hc acc fs (accd.map newT) ∧ (∀ b ∈ fs.flatten, H1 b = none ∧ Fc b = none ∧ Hc b ≠ none ∧ b ≠ Dd) ∧ fs.flatten.Nodup ∧ accd.length ≤ i ∧ compL (wipeR ρ vs) t gyes fe (ds.drop i) = some rest ∧ ys = accd ++ rest
    refine ⟨fun i m Hc => i + m = ds.length ∧ In i Hc, ⟨ds.length, Nat.zero_add _, F1, [], [], [], ys, same_upd hD, Same.refl _, (Gr.side g1.fh hD).fh, fun _ _ z => .inl z, fD, upd_same, trivial, fun b hb => absurd hb List.not_mem_nil, List.nodup_nil, Nat.zero_le _, e, rfl⟩, fun i m Hc hW => ?_⟩
    obtain ⟨em, Fc, acc, fs, accd, rest, s1, s2, s3, nw, fd, hd, qa, hfr, hnd, hla, ec, ey⟩ := hW
    by_cases hi : i < ds.length
    · refine .inr ⟨yl.go Fc Hc s2 s3 i hi, In (i + 1), fun H' hN => ⟨m - 1, by omega, by omega, hN⟩, fun x H' hy => ?_⟩
      have hdi : ds[i]? = some ds[i] := List.getElem?_eq_getElem hi
      obtain ⟨F2, g2, q2⟩ := yl.yld Fc Hc s2 s3 i _ x H' hdi hy
      rw [List.drop_eq_getElem_cons hi] at ec
      obtain ⟨ρ', eρ, ec⟩ := bind_some_iff ec
      obtain ⟨b, eb, ec⟩ := bind_some_iff ec
      cases eb
      obtain ⟨y, eye, ec⟩ := bind_some_iff (show _ = some rest from ec)
      obtain ⟨zs, ez, ec⟩ := bind_some_iff ec
      cases ec
      have gc : Gr F1 H1 Fc Hc := ⟨s1, s2, s3, nw⟩
      have gD2 : Gr F1 H1 F2 H' := gc.trans g2
      have vw2 : Vw K P F2 H' (wipe σ vs) (wipeR ρ vs) := ((vw.grow g1).grow gD2).wipe vs
      refine ⟨P, F2, wipeR ρ vs, ds[i], ρ', vw2, q2, eρ, fun σ' vw3 w3 => ⟨(w3 vs hsl).trans (wipe_wipe σ vs), ?_⟩⟩
      refine ⟨P, F2, ρ', true, vw3, rfl, fun F3 H3 g3 => ?_⟩
      refine ⟨P, F3, ρ', y, vw3.grow g3, eye, fun a dx l F4 H4 g4 na nd nl fa fdx fl q => ?_⟩
      have g23 := g2.trans g3
      have g24 := g23.trans g4
      have g14 := gc.trans g24
      have n2 : H4 Dd = some (.lst acc) := g24.hh _ _ hd
      have d3 : H3 Dd = some (.lst acc) := g23.hh _ _ hd
      have la : acc.length ≤ i := by rw [qa.lens.1, List.length_map]; exact hla
      have neD : ∀ b, H3 b = none → b ≠ Dd := fun b hb z => by rw [z, d3] at hb; cases hb
      have old : ∀ b, H3 b = none → H1 b = none := fun b hb => (gc.trans g23).hh.free hb
      obtain ⟨tc, v1, v2, vs', q1, q2', q3, _⟩ := id q
      obtain ⟨ap1, ap2, ap3⟩ := q.apart
      refine ⟨acc, n2, by omega, F4, acc ++ [.ref a], fs ++ [[a, dx, l]], accd ++ [y], zs, fun b' o z => ?_, g14.ff, fun b' o z => ?_, g14.new, g24.keepN fd (by rw [hd]; exact fun z => nomatch z), upd_same, ?_, ?_, ?_, by rw [List.length_append]; simp; omega, ez, by rw [ey, List.append_assoc]; rfl⟩
      · rw [upd_ne (ne_of_none z hD)]
        exact g14.hh _ _ z
      · rw [upd_ne (ne_of_none z (g24.keepN fd (by rw [hd]; exact fun z => nomatch z)))]
        exact g14.fh _ _ z
      · rw [List.map_append]
        refine OwEs.snoc (qa.upto g24.ff fun b o hb z => ?_) ⟨a, C, dx, l, rfl, ?_, rfl⟩
        · rw [upd_ne (hfr b hb).2.2.2]
          exact g24.hh _ _ z
        · obtain ⟨tc, v1, v2, vs', q1, q2', q3, q4, q5, q6⟩ := q
          exact ⟨tc, v1, v2, vs', by rw [upd_ne (neD a na)]; exact q1, by rw [upd_ne (neD dx nd)]; exact q2', by rw [upd_ne (neD l nl)]; exact q3, q4, q5, q6⟩
      · intro b hb
        rw [List.flatten_append, List.mem_append] at hb
        rcases hb with hb | hb
        · obtain ⟨z1, z2, z3, z4⟩ := hfr b hb
          exact ⟨z1, g24.keepN z2 z3, by rw [upd_ne z4]; exact fun z => z3 (g24.hh.free z), z4⟩
        · simp only [List.flatten_cons, List.flatten_nil, List.append_nil, List.mem_cons, List.not_mem_nil, or_false] at hb
          rcases hb with rfl | rfl | rfl
          · exact ⟨old _ na, fa, (by rw [upd_ne (neD _ na), q1]; exact fun z => (nomatch z)), neD _ na⟩
          · exact ⟨old _ nd, fdx, (by rw [upd_ne (neD _ nd), q2']; exact fun z => (nomatch z)), neD _ nd⟩
          · exact ⟨old _ nl, fl, (by rw [upd_ne (neD _ nl), q3]; exact fun z => (nomatch z)), neD _ nl⟩
      · rw [List.flatten_append, List.nodup_append]
        refine ⟨hnd, by simp [ap1, ap2, ap3], fun b hb c hc => ?_⟩
        have hb3 : H3 b ≠ none := fun z => (hfr b hb).2.2.1 (g23.hh.free z)
        simp only [List.flatten_cons, List.flatten_nil, List.append_nil, List.mem_cons, List.not_mem_nil, or_false] at hc
        rcases hc with rfl | rfl | rfl
        · exact fun z => hb3 (by rw [z]; exact na)
        · exact fun z => hb3 (by rw [z]; exact nd)
        · exact fun z => hb3 (by rw [z]; exact nl)
    · have ei : i = ds.length := by omega
      subst ei
      refine .inl ⟨yl.stop Fc Hc s2 s3, ?_⟩
      rw [List.drop_length] at ec
      cases ec
      rw [List.append_nil] at ey
      subst ey
      refine k Dd acc fs Fc Hc (g1.trans ⟨s1, s2, s3, nw⟩) (g1.hh.free hD) fd hd qa (fun b hb => ⟨g1.hh.free (hfr b hb).1, (hfr b hb).2.1, (hfr b hb).2.2.1⟩) (List.nodup_cons.mpr ⟨fun z => (hfr Dd z).2.2.2 rfl, hnd⟩)
  · cases e
def gmkTs (gl : List D → Option D) (i : Nat) (f : En → Option (List D)) : En → Option Res := fun ρ => (f ρ).bind fun ds => (gl [.lst ds]).map fun _ => .nx (ρ.set i (.ow (ds.map newT)))
section
variable {X : Cx} {k : Nat} {C : Addr} {gn gs gl : List D → Option D} {nf : Bool}
theorem psd_mkTs {i : Nat} {y : Str} {py p cp pos spos : Pos} {arg tg iter : Expr} {scope : Scope} {own : List (Str × Nat)} {fi : En → Option (List D)} {t : Tg} {fe : En → Option D} (T : TabOk X.prog X.w X.K X.mg X.base k gn gs gl nf C) (hr : ∀ (s : Shared) (H : Hp) (C : Addr) (cl : List (Str × Addr)) (fp : List Addr), Room k (X.blk s H scope (compEnvC scope cl C X.env) fp).A)
    (hgl : ∀ (s : Shared) (H : Hp) (C : Addr) (cl : List (Str × Addr)) (fp : List Addr), Gl (X.blk s H scope (compEnvC scope cl C X.env) fp) "Table") (hsl : ∀ i ∈ t.slots, i ∈ own.map (·.2)) (hc : X.calm = true) (hN : X.N.Nodup) (hy : X.N[i]? = some y) (hyl : X.env.scope.names.lookup y = some .local)
    (hsw : swapsWith (.ListComp (.Call (.Name "Table" p) [arg] [] cp) [⟨tg, iter, [], 0⟩] scope pos) (some (.Name y py)) spos.line X.env = pure true) (hi : PI X tg iter (iD X.kf fi)) (ok : BlkOk X.N X.env.scope scope own)
    (hg : ∀ (s : Shared) (H : Hp) (C : Addr) (cl : List (Str × Addr)) (fp : List Addr), PG (X.blk s H scope (compEnvC scope cl C X.env) fp) tg (gD X.kf t))
    (he : ∀ (s : Shared) (H : Hp) (C : Addr) (cl : List (Str × Addr)) (fp : List Addr), PE (X.blk s H scope (compEnvC scope cl C X.env) fp) arg (tD X.kf fe)) (hst : ∀ env, starEach [arg] env = [(false, eval arg env)]) (hs : ∀ x, foldedSetIterable iter X.env x = pure x) :
    PS X (.Assign [.Name y py] (.ListComp (.Call (.Name "Table" p) [arg] [] cp) [⟨tg, iter, [], 0⟩] scope pos) spos) (sD X.kf (gmkTs gl i (gcomp (own.map (·.2)) fi t gyes fe))) := by
  by_cases hk : 2 ≤ k
  · obtain ⟨f, fd, h1, h2, h3⟩ := T.init
    refine PSi (ps_setLc (g := gD X.kf t) (tt := tDT X.kf gyes) (te := tNewT X.kf C fe) hc hN hy hyl hsw hi ok hg (fun s H C cl fp => pts_yes) (fun s H C' cl fp => pe_newT (X := X.blk s H scope (compEnvC scope cl C' X.env) fp) T.tx h1 h2 (by exact h3) ((hr s H C' cl fp).mono hk) (hgl s H C' cl fp) T.mgC (he s H C' cl fp) (hst _)) hs) fun E σ H h => ?_
    obtain ⟨W, F, ρ, r, sg, e, kk⟩ := h
    obtain ⟨ys, ey, e⟩ := bind_some_iff e
    obtain ⟨_, _, rfl⟩ := Option.map_eq_some_iff.mp e
    refine tLc_T hsl ⟨_, F, ρ, ys, sg.vw, ey, fun q as fs F' H' g hq fq eq qs hfr hnd => ?_⟩
    refine kk _ F' H' (sg.setNewG (fn := q :: fs.flatten) g (fun b hb => ?_) ⟨q, as, fs, rfl, eq, qs, rfl, hnd⟩)
    rcases List.mem_cons.mp hb with rfl | hb
    · exact ⟨hq, fq, by rw [eq]; exact fun z => nomatch z⟩
    · exact hfr b hb
  · refine ps_none fun ρ => ?_
    unfold gmkTs
    cases gcomp (own.map (·.2)) fi t gyes fe ρ with
    | none => rfl
    | some d =>
      show (gl [.lst d]).map _ = none
      rw [gl_none T hk]
      rfl
end
end DL
end
section
/-! a table that lives on through a comprehension -/
namespace DL
open PySem PySem.Spec L2
open PyProof.Rows hiding St
def foldL (g : D → D → List D → D → Option (D × D × List D)) (d : D) : D → List D → List D → Option (List D × D × List D)
  | r, os, [] => some ([], r, os)
  | r, os, c :: cs => (g d r os c).bind fun z => (foldL g d z.2.1 z.2.2 cs).map fun y => (z.1 :: y.1, y.2)
theorem foldL_len {g : D → D → List D → D → Option (D × D × List D)} {d : D} : ∀ {cs : List D} {r : D} {os : List D} {w : List D × D × List D}, foldL g d r os cs = some w → w.1.length = cs.length
  | [], r, os, w, h => by cases h; rfl
  | c :: cs, r, os, w, h => by
    obtain ⟨z, _, h⟩ := bind_some_iff h
    obtain ⟨y, hy, rfl⟩ := Option.map_eq_some_iff.mp h
    show (z.1 :: y.1).length = _
    rw [List.length_cons, foldL_len hy, List.length_cons]
theorem ok_seq {F H F1 H1 F2 H2 : Hp} {L : Addr → Prop} (h1 : Ok0 ⟨H, F, L⟩ F1 H1) (h2 : Ok0 ⟨H1, F1, L⟩ F2 H2) : Ok0 ⟨H, F, L⟩ F2 H2 :=
  ⟨fun b o hb z => h2.same b o hb (h1.same b o hb z), fun b hb => h2.live b (h1.live b hb), h1.up.trans h2.up, fun b o z => by
    rcases h2.new b o z with y | y
    · exact h1.new b o y
    · refine .inr ?_
      cases w : H b with
      | none => exact w
      | some u => exact absurd y (h1.live b (by show H b ≠ none; rw [w]; exact fun z => nomatch z))⟩
theorem ok_upd {F H F1 H1 : Hp} {L : Addr → Prop} {q : Addr} {o : HO} (h : Ok0 ⟨H, F, L⟩ F1 H1) (hq : H q = none) : Ok0 ⟨H, F, L⟩ F1 (upd H1 q o) :=
  ⟨fun b u hb z => by
    rw [upd_ne (ne_of_none z hq)]
    exact h.same b u hb z, fun b hb => by
    by_cases hbq : b = q
    · rw [hbq, upd_same]; exact fun z => nomatch z
    · rw [upd_ne hbq]; exact h.live b hb, h.up, h.new⟩
theorem ok_none {F H F1 H1 : Hp} {L : Addr → Prop} {b : Addr} (h : Ok0 ⟨H, F, L⟩ F1 H1) (fb : F b = none) (hb : H b ≠ none) : F1 b = none := by
  cases e : F1 b with
  | none => rfl
  | some o =>
    rcases h.new b o e with z | z
    · have z : F b = some o := z
      rw [fb] at z; cases z
    · exact absurd z hb
theorem okG {F H F1 H1 : Hp} {L : Addr → Prop} (g : Gr F H F1 H1) : Ok0 ⟨H, F, L⟩ F1 H1 := ⟨fun b o _ z => g.hh b o z, fun b hb z => hb (g.hh.free z), g.ff, g.new⟩
theorem wipeR_len (ρ : En) : ∀ vs : List Nat, (wipeR ρ vs).length = ρ.length
  | [] => rfl
  | v :: vs => by
    show ((wipeR ρ vs).set v .no).length = _
    rw [List.length_set, wipeR_len ρ vs]
/-- [_law_lives(x, y) for y in the list at cn] -/
theorem tLc_V {K : Kf} {C cn a dx l : Addr} {g : D → D → List D → D → Option (D × D × List D)} {i c : Nat} {vs : List Nat} (hic : i ∉ vs) (hcv : c ∈ vs) {tl : TE} {P : Addr → Prop} {F H : Hp} {σ : St} {ρ : En} {us : List V} {zs : List D} {d r : D} {os : List D} {w : List D × D × List D} {Q : VK}
    (vw : Vw K P F H σ ρ) (et : ρ[i]? = some (.t d r os)) (es : σ[i]? = some (some (.ref a))) (tb : TabH K F H C a dx l d r os) (fa : F a = none) (fdx : F dx = none) (fl : F l = none) (hcn : H cn = some (.lst us)) (qz : Das K F us zs) (nca : cn ≠ a) (ncl : cn ≠ l) (hz : zs.length ≤ sizeLine) (hcl : c < ρ.length)
    (hf : foldL g d r os zs = some w) (k : ∀ q ws F' H', Ok0 ⟨H, F, Lent a l⟩ F' H' → Same F' H' → TabH K F' H' C a dx l d w.2.1 w.2.2 → H q = none → H' q = some (.lst ws) → F' q = none → Das K F' ws w.1 → Q (.ref q) H') :
    ∀ D, H D = none → ∃ W : Nat → Nat → Hp → Prop, (∃ m, W 0 m (upd H D (.lst []))) ∧ ∀ i' m Hc, W i' m Hc →
  ((Itl K.K cn).stop i' Hc ∧ Q (.ref D) Hc) ∨ ((Itl K.K cn).go i' Hc ∧ ∃ Nx : Hp → Prop, (∀ H', Nx H' → ∃ m', m' < m ∧ W (i' + 1) m' H') ∧ ∀ x H', (Itl K.K cn).yld i' Hc x H' → gD K (.nm c) x (wipe σ vs) H' fun σ2 H2 => wipe σ2 vs = wipe σ vs ∧ tDT K gyes σ2 H2 fun b H3 =>
    if b = true then (tCall (spT K C g) [] E0 (tCons (tVar i) (tCons (tVar c) tNil))) σ2 H3 fun y H4 => ∃ acc, H4 D = some (.lst acc) ∧ acc.length < sizeLine ∧ Nx (upd H4 D (.lst (acc ++ [y]))) else Nx H3) := by
  intro Dd hD
  have sf := vw.sub
  have fD : F Dd = none := sf.free hD
  obtain ⟨tc0, v1, v2, vs0, o1, o2, o3, _⟩ := id tb
  have nA : a ≠ Dd := ne_of_none o1 hD
  have nX : dx ≠ Dd := ne_of_none o2 hD
  have nL : l ≠ Dd := ne_of_none o3 hD
  have tabU : ∀ {F' H' : Hp} {r' : DL.D} {os' : List DL.D} {o : HO}, TabH K F' H' C a dx l d r' os' → TabH K F' (upd H' Dd o) C a dx l d r' os' := fun ⟨tc, v1, v2, vs0, o1, o2, o3, o4⟩ => ⟨tc, v1, v2, vs0, by rw [upd_ne nA]; exact o1, by rw [upd_ne nX]; exact o2, by rw [upd_ne nL]; exact o3, o4⟩
  have samU : ∀ {F' H' : Hp} {o : HO}, Same F' H' → F' Dd = none → Same F' (upd H' Dd o) := fun s n b u z => by
    rw [upd_ne (ne_of_none z n)]
    exact s b u z
  let In : Nat → Hp → Prop := fun j Hc => ∃ Fc acc accd r' os' rest, Ok0 ⟨H, F, Lent a l⟩ Fc Hc ∧ Same Fc Hc ∧ TabH K Fc Hc C a dx l d r' os' ∧ Fc Dd = none ∧ Hc Dd = some (.lst acc) ∧ Das K Fc acc accd ∧ accd.length = j ∧ j ≤ zs.length ∧ foldL g d r' os' (zs.drop j) = some (rest, w.2) ∧ w.1 = accd ++ rest
  have ok0 : Ok0 ⟨H, F, Lent a l⟩ F H := ⟨fun b o _ z => z, fun b z => z, Same.refl _, fun a o z => .inl z⟩
  refine ⟨fun j m Hc => j + m = zs.length ∧ In j Hc, ⟨zs.length, Nat.zero_add _, F, [], [], r, os, w.1, ok_upd ok0 hD, samU sf fD, tabU tb, fD, upd_same, .nil, rfl, Nat.zero_le _, hf, rfl⟩, fun j m Hc hW => ?_⟩
  obtain ⟨em, Fc, acc, accd, r', os', rest, ok, fh, q, fd, hd, qa, hla, hjl, ec, ey⟩ := hW
  have hcnc : Hc cn = some (.lst us) := ok.same cn _ (fun z => z.elim nca ncl) hcn
  have qzc := qz.same ok.up
  by_cases hi : j < zs.length
  · have hju : j < us.length := by rw [qz.length]; exact hi
    refine .inr ⟨⟨us, us[j], .of hcnc, List.getElem?_eq_getElem hju⟩, In (j + 1), fun H' hN => ⟨m - 1, by omega, by omega, hN⟩, fun x H' hy => ?_⟩
    obtain ⟨e1, e2⟩ := hy
    subst e1
    have ex := e2 us (.of hcnc)
    obtain ⟨x', ex', dax⟩ := qzc.get (List.getElem?_eq_getElem hi)
    rw [ex] at ex'
    cases ex'
    rw [List.drop_eq_getElem_cons hi] at ec
    obtain ⟨z, ez, ec⟩ := bind_some_iff ec
    obtain ⟨y, hy2, ey2⟩ := Option.map_eq_some_iff.mp ec
    have vwc : Vw K P Fc H' σ (ρ.set i (.t d r' os')) := vw.mutT et es tb ok.up fh (fun b o h1 h2 e => ok.same b o (fun w => w.elim h1 h2) e) ok.live ok.new q
    refine ⟨P, Fc, wipeR (ρ.set i (.t d r' os')) vs, zs[j], _, vwc.wipe vs, dax, rfl, fun σ' vw3 w3 => ⟨(w3 vs (fun n hn => ?_)).trans (wipe_wipe σ vs), ?_⟩⟩
    · rw [List.mem_singleton.mp hn]
      exact hcv
    · refine ⟨P, Fc, _, true, vw3, rfl, fun F3 H3 g3 => iteT ?_⟩
      have es' : σ'[i]? = some (some (.ref a)) := by
        have hw := congrArg (fun s : St => s[i]?) (w3 vs fun n hn => by rw [List.mem_singleton.mp hn]; exact hcv)
        simp only [wipe_get, if_neg hic] at hw
        rw [hw]
        exact es
      obtain ⟨v, esc, dav⟩ := vw3.get (i := c) (x := zs[j]) (by rw [List.getElem?_set_self (by rw [wipeR_len, List.length_set]; exact hcl)])
      have hAc : H' a ≠ none := ok.live a (by show H a ≠ none; rw [o1]; exact fun z => nomatch z)
      have hXc : H' dx ≠ none := ok.live dx (by show H dx ≠ none; rw [o2]; exact fun z => nomatch z)
      have hLc : H' l ≠ none := ok.live l (by show H l ≠ none; rw [o3]; exact fun z => nomatch z)
      have fac : Fc a = none := ok_none ok fa (by rw [o1]; exact fun z => nomatch z)
      have fxc : Fc dx = none := ok_none ok fdx (by rw [o2]; exact fun z => nomatch z)
      have flc : Fc l = none := ok_none ok fl (by rw [o3]; exact fun z => nomatch z)
      refine ⟨_, es', _, esc, rfl, F3, a, dx, l, d, r', os', v, zs[j], z, rfl, g3.fh, q.grow g3, g3.keepN fac hAc, g3.keepN fxc hXc, g3.keepN flc hLc, dav.same g3.ff, ez, fun u F4 H4 ok4 fh4 q4 qu => ?_⟩
      have d3 : H3 Dd = some (.lst acc) := g3.hh _ _ hd
      have f3 : F3 Dd = none := g3.keepN fd (by rw [hd]; exact fun z => nomatch z)
      have f4 : F4 Dd = none := ok_none ok4 f3 (by rw [d3]; exact fun z => nomatch z)
      injection ey2 with ey2 ey3
      refine ⟨acc, ok4.same Dd _ (fun z => z.elim nA.symm nL.symm) d3, by rw [qa.length]; omega, F4, acc ++ [u], accd ++ [z.1], z.2.1, z.2.2, y.1, ok_upd (ok_seq (ok_seq ok (okG g3)) ok4) hD, samU fh4 f4, tabU q4, f4, upd_same, (qa.same (g3.ff.trans ok4.up)).append (.cons qu .nil), by rw [List.length_append, List.length_singleton, hla], hi, by rw [hy2, ← ey3], by rw [ey, ← ey2, List.append_assoc]; rfl⟩
  · have ei : j = zs.length := by omega
    subst ei
    refine .inl ⟨⟨us, .of hcnc, by rw [qz.length]; exact Nat.le_refl _⟩, ?_⟩
    rw [List.drop_length] at ec
    injection ec with ec
    injection ec with ec1 ec2
    rw [← ec1, List.append_nil] at ey
    rw [← ey] at qa
    exact k Dd acc Fc Hc ok fh (by rw [← ec2]; exact q) hD hd fd qa
end DL
end
section
/-! if not same(tuple(x[n]), tuple([_law_lives(y, z) for z in w[n]])): .. -/
namespace DL
open PySem PySem.Spec L2
open PyProof.Rows hiding St
theorem Vw.apartL {K : Kf} {P : Addr → Prop} {F H : Hp} {σ : St} {ρ : En} {cs : List Ow} {zs : List D} {i j n : Nat} {d r : D} {os : List D} {C q2 cn a dx l : Addr} {vt : List V} (h : Vw K P F H σ ρ) (e1 : ρ[i]? = some (.t d r os)) (s1 : σ[i]? = some (some (.ref a))) (tb : TabH K F H C a dx l d r os) (e2 : ρ[j]? = some (.ow cs)) (ej : cs[n]? = some (.l zs))
    (s2 : σ[j]? = some (some (.ref q2))) (h2 : H q2 = some (.lst vt)) (hv : vt[n]? = some (.ref cn)) : cn ≠ l := by
  obtain ⟨fp, k1, k2, k3⟩ := h.sl
  have hi : i < ρ.length := (List.getElem?_eq_some_iff.mp e1).1
  have hj : j < ρ.length := (List.getElem?_eq_some_iff.mp e2).1
  have hij : i ≠ j := fun z => by
    rw [z, e2] at e1
    cases e1
  rcases k1 i _ _ e1 s1 with ⟨z, _⟩ | ⟨v, ev, a', C', dx', l', rfl, tb', q3⟩
  · cases z
  · cases ev
    obtain ⟨_, _, rfl⟩ := tb.uniq tb'
    rcases k1 j _ _ e2 s2 with ⟨z, _⟩ | ⟨v, ev, p, vs2, fs2, rfl, w1, w2, w3, _⟩
    · cases z
    · cases ev
      rw [h2] at w1
      cases w1
      obtain ⟨v, f, y1, y2, a2, us, y3, y4, y5, y6⟩ := w2.get ej
      rw [hv] at y1
      cases y1
      cases y3
      intro z
      refine hij (k3 i j l hi hj (by rw [q3]; simp) ?_)
      rw [w3]
      exact List.mem_cons_of_mem _ (List.mem_flatten.mpr ⟨f, List.mem_of_getElem? y2, by rw [y6, z]; simp⟩)
def lonK (g : D → D → List D → D → Option (D × D × List D)) (gsame : List D → Option D) (i jr jc c : Nat) (fb : En → Option Res) (ρ : En) (k : Int) : Option Sl → Option Sl → Option Sl → Option Res
  | some (.ow xs), some (.ow cs), some (.t d r os) => if 0 ≤ k ∧ c < ρ.length then (match xs[k.toNat]?, cs[k.toNat]? with
    | some (.l ys), some (.l zs) => if zs.length ≤ sizeLine then (foldL g d r os zs).bind fun w => (gsame [.tup ys, .tup w.1]).bind fun b => (bool1 b).bind fun b => if b then some (.nx (ρ.set i (.t d w.2.1 w.2.2))) else fb (ρ.set i (.t d w.2.1 w.2.2)) else none
    | _, _ => none) else none
  | _, _, _ => none
def glon (g : D → D → List D → D → Option (D × D × List D)) (gsame : List D → Option D) (i jr jc c : Nat) (fn : En → Option D) (fb : En → Option Res) : En → Option Res := fun ρ => (fn ρ).bind fun n => match n with
  | .int k => lonK g gsame i jr jc c fb ρ k ρ[jr]? ρ[jc]? ρ[i]?
  | _ => none
theorem glon_some {g : D → D → List D → D → Option (D × D × List D)} {gsame : List D → Option D} {i jr jc c : Nat} {fn : En → Option D} {fb : En → Option Res} {ρ : En} {res : Res} (h : glon g gsame i jr jc c fn fb ρ = some res) :
    ∃ k xs cs d r os ys zs w b, fn ρ = some (.int k) ∧ ρ[jr]? = some (.ow xs) ∧ ρ[jc]? = some (.ow cs) ∧ ρ[i]? = some (.t d r os) ∧ 0 ≤ k ∧ c < ρ.length ∧ xs[k.toNat]? = some (.l ys) ∧ cs[k.toNat]? = some (.l zs) ∧ zs.length ≤ sizeLine ∧ foldL g d r os zs = some w ∧ gsame [.tup ys, .tup w.1] = some (.bl b) ∧ (if b then some (.nx (ρ.set i (.t d w.2.1 w.2.2))) else fb (ρ.set i (.t d w.2.1 w.2.2))) = some res := by
  obtain ⟨n, h1, h2⟩ := bind_some_iff h
  clear h
  cases n with
  | int k =>
    have h2 : lonK g gsame i jr jc c fb ρ k ρ[jr]? ρ[jc]? ρ[i]? = some res := h2
    generalize e1 : ρ[jr]? = s1 at h2
    generalize e2 : ρ[jc]? = s2 at h2
    generalize e3 : ρ[i]? = s3 at h2
    unfold lonK at h2
    split at h2
    · split at h2
      · rename_i hk
        split at h2
        · rename_i e4 e5
          split at h2
          · rename_i hz
            obtain ⟨w, hw, h3⟩ := bind_some_iff h2
            obtain ⟨b, hb, h4⟩ := bind_some_iff h3
            obtain ⟨b', hb', h5⟩ := bind_some_iff h4
            have : b = .bl b' := by
              cases b with
              | bl _ => cases hb'; rfl
              | _ => cases hb'
            subst this
            exact ⟨k, _, _, _, _, _, _, _, w, b', h1, rfl, rfl, rfl, hk.1, hk.2, e4, e5, hz, hw, hb, h5⟩
          · cases h2
        · cases h2
      · cases h2
    · cases h2
  | _ => cases h2
section
variable {X : Cx} {k : Nat} {C : Addr}
theorem psd_lon {x y z u sm : Str} {i jr jc c : Nat} {g gsame : List D → Option D} {fn : En → Option D} {fb : En → Option Res} {n1 n2 : Expr} {body : List Stmt} {ps p1 pr sp1 c1 p2 pl pln pcv lc tcv pc sp2 lpos c2 cs up pos : Pos} {scope : Scope} {own : List (Str × Nat)} {fS : Addr} {fdS : FuncData} {psS : List Str}
    (T : TX X.kf C) (O : LivOk X.prog X.w X.K X.mg X.base k g C) (FS : FnOk X.prog X.w X.K X.mg X.base CX0 k fS fdS psS (spD X.kf 2 gsame)) (gS : X.mg sm = some (.ref fS)) (kS : PySem.W.keepIn X.K (.ref fS) = true) (bS : Binds X.K fdS psS []) (hgS : Gl X sm) (hdS : (sm == ("__debug__" : Str)) = false)
    (hr : Room k X.A) (hgT : Gl X "tuple") (mT : X.mg "tuple" = none) (hc : X.calm = true) (hNd : X.N.Nodup)
    (hNx : X.N[jr]? = some x) (hvx : Vis X.env.scope x) (hdx : (x == ("__debug__" : Str)) = false) (hcx : (x == ("__classdict__" : Str)) = false) (hNu : X.N[jc]? = some u) (hvu : Vis X.env.scope u) (hdu : (u == ("__debug__" : Str)) = false) (hcu : (u == ("__classdict__" : Str)) = false)
    (hn1 : PE X n1 (tD X.kf fn)) (hpl1 : PlainIx n1) (hn2 : PE X n2 (tD X.kf fn)) (hpl2 : PlainIx n2) (ok : BlkOk X.N X.env.scope scope own) (hic : i ∉ own.map (·.2)) (hcv : c ∈ own.map (·.2))
    (hB : ∀ (s : Shared) (H : Hp) (C' : Addr) (cl : List (Str × Addr)) (fp : List Addr), PG (X.blk s H scope (compEnvC scope cl C' X.env) fp) (.Name z tcv) (gD X.kf (.nm c)) ∧ PE (X.blk s H scope (compEnvC scope cl C' X.env) fp) (.Name y pln) (tVar i) ∧ PE (X.blk s H scope (compEnvC scope cl C' X.env) fp) (.Name z pcv) (tVar c) ∧ Room k (X.blk s H scope (compEnvC scope cl C' X.env) fp).A ∧ Gl (X.blk s H scope (compEnvC scope cl C' X.env) fp) "_law_lives")
    (hs : ∀ v, foldedSetIterable (.Subscript (.Name u pc) n2 sp2) X.env v = pure v) (hb : PSs X body (sD X.kf fb)) :
    PS X (.If (.UnaryOp .Not (.Call (.Name sm ps) [.Call (.Name "tuple" p1) [.Subscript (.Name x pr) n1 sp1] [] c1, .Call (.Name "tuple" p2) [.ListComp (.Call (.Name "_law_lives" pl) [.Name y pln, .Name z pcv] [] lc) [⟨.Name z tcv, .Subscript (.Name u pc) n2 sp2, [], 0⟩] scope lpos] [] c2] [] cs) up) body [] pos) (sD X.kf (glon (decL g) gsame i jr jc c fn fb)) := by
  obtain ⟨f, fd, m1, m2, m3, G⟩ := O
  have lcE : PE X (.ListComp (.Call (.Name "_law_lives" pl) [.Name y pln, .Name z pcv] [] lc) [⟨.Name z tcv, .Subscript (.Name u pc) n2 sp2, [], 0⟩] scope lpos) (tLc (iList X.K (tOp (rIxL X.K) (tVar jc) (tD X.kf fn))) (gD X.kf (.nm c)) (tDT X.kf gyes) (tCall (spT X.kf C (decL g)) [] E0 (tCons (tVar i) (tCons (tVar c) tNil))) (own.map (·.2))) :=
    pe_lc hc hNd (pi_list (pe_ix ix_list (pe_var (i := jc) hNu hvu hdu hcu) hn2 hpl2)) ok (fun s H C' cl fp => (hB s H C' cl fp).1) (fun s H C' cl fp => pts_yes (X := X.blk s H scope (compEnvC scope cl C' X.env) fp)) (fun s H C' cl fp => by
      obtain ⟨_, b1, b2, b3, b4⟩ := hB s H C' cl fp
      exact pe_call (X := X.blk s H scope (compEnvC scope cl C' X.env) fp) G b3 b4 m1 m2 m3 .nil pass0 (pa_cons b1 (pa_cons b2 pa_nil rfl) rfl) (by decide) rfl rfl) hs
  refine PSi (ps_if (pt_not (pt_truth (pe_call FS hr hgS gS kS bS .nil pass0 (pa_cons (pe_callTy call_tuple_of hgT mT (by decide +kernel) (pa_cons (pe_ix ix_list (pe_var (i := jr) hNx hvx hdx hcx) hn1 hpl1) pa_nil rfl) (by decide) (by decide) rfl rfl) (pa_cons (pe_callTy call_tuple_of hgT mT (by decide +kernel) (pa_cons lcE pa_nil rfl) (by decide) (by decide) rfl rfl) pa_nil rfl) rfl) hdS rfl rfl) (fun _ => rfl))) hb pss_nil) fun E σ H h => ?_
  obtain ⟨W, F, ρ, res, sg, e, kk⟩ := h
  obtain ⟨m, xs, cs', d, r, os, ys, zs, w, b, en, ex, ec, et, hm, hcl, ejx, ejc, hz, hf, eb, eres⟩ := glon_some e
  obtain ⟨qx, vx, v1, f1, esx, hqx, hvx1, _, ⟨rx, ux, rfl, hrx, dax, rfl⟩, _⟩ := sg.owAt ex ejx
  refine ⟨_, esx, _, F, ρ, _, sg.vw, en, fun w1 F1 H1 g1 d1 => ?_⟩
  cases d1
  refine ⟨qx, vx, m, .ref rx, rfl, rfl, .of (g1.hh _ _ hqx), by rw [at_nn hm]; exact hvx1, rx, ux, rfl, .inl ⟨.of (g1.hh _ _ hrx), fun t1 ht1 => ?_⟩⟩
  have g2 := Gr.laid (o := .tup ux) g1.fh ht1
  have g12 := g1.trans g2
  have sg2 := sg.grow g12
  have da1 : Da X.kf (upd F1 t1 (.tup ux)) (.ref t1) (.tup ys) := .tup (.of upd_same) (dax.same g12.ff)
  obtain ⟨qc, vc, v2, f2, esc, hqc, hvc, _, ⟨cn, uc, rfl, hcn, dac, rfl⟩, _⟩ := sg2.owAt ec ejc
  refine ⟨_, esc, _, _, ρ, _, sg2.vw, en, fun w3 F3 H3 g3 d3 => ?_⟩
  cases d3
  refine ⟨qc, vc, m, .ref cn, rfl, rfl, .of (g3.hh _ _ hqc), by rw [at_nn hm]; exact hvc, cn, rfl, ⟨uc, .of (g3.hh _ _ hcn)⟩, ?_⟩
  have sg3 := sg2.grow g3
  obtain ⟨a, C2, dx, l, es, tb, ⟨fa, fdx, fl⟩, _⟩ := sg3.vw.getT et
  obtain rfl := TabC.uniq T.tc tb.1
  have tq := id tb
  obtain ⟨_, o1, o2, o3, oa, _⟩ := tq
  have nca : cn ≠ a := fun z => by
    have := g3.hh _ _ hcn
    rw [z, oa] at this
    cases this
  have ncl : cn ≠ l := sg3.vw.apartL et es tb ec ejc esc (g3.hh _ _ hqc) hvc
  refine tLc_V (g := decL g) (Q := fun x H1 => ∃ p ys, [x] = [V.ref p] ∧ ((SqL X.K H1 p ys ∧ ∀ l, H1 l = none → spD X.kf 2 gsame [V.ref t1, V.ref l] (upd H1 l (.tup ys)) (fun v H' => ∃ k, TruV X.K v H' k ∧ (if (!k) = true then sD X.kf fb E σ H' else E.nx σ H')) E0) ∨ (SqT X.K H1 p ys ∧ spD X.kf 2 gsame [V.ref t1, V.ref p] H1 (fun v H' => ∃ k, TruV X.K v H' k ∧ (if (!k) = true then sD X.kf fb E σ H' else E.nx σ H')) E0))) hic hcv (tl := tVar 0) sg3.vw et es tb fa fdx fl (g3.hh _ _ hcn) (dac.same g3.ff) nca ncl hz hcl hf fun q ws F4 H4 ok4 fh4 tb4 hq hq4 fq4 daw => ?_
  refine ⟨q, ws, rfl, .inl ⟨.of hq4, fun t2 ht2 => ?_⟩⟩
  have sg4 := sg3.mutT et es tb ok4 fh4 tb4
  have g5 := Gr.laid (o := .tup ws) fh4 ht2
  have sg5 := sg4.grow g5
  refine ⟨rfl, _, [.tup ys, .tup w.1], .bl b, g5.fh, .cons (da1.same (g3.ff.trans (ok4.up.trans g5.ff))) (.cons (.tup (.of upd_same) (daw.same g5.ff)) .nil), eb, fun v6 F6 H6 g6 d6 => ?_⟩
  cases d6
  have sg6 := sg5.grow g6
  refine ⟨b, rfl, ?_⟩
  cases b with
  | true =>
    cases eres
    exact iteF (kk σ F6 H6 sg6)
  | false => exact iteT ⟨W, F6, _, res, sg6, eres, kk⟩
end
end DL
end
section
/-! tuples that have no dict of their own: made by t + (x,), counted -/
namespace DL
open PySem PySem.Spec L2
open PyProof.Rows hiding St
def fgtD : D → D
  | .btp xs => .tup xs
  | d => d
theorem Da.fgt {K : Kf} {F : Hp} {v : V} : ∀ {d : D}, Da K F v d → Da K F v (fgtD d)
  | .btp _, .btp h _ q => .tup (.inl (.inr ⟨_, h⟩)) q
  | .non, q => q
  | .bl _, q => q
  | .int _, q => q
  | .str _, q => q
  | .lst _, q => q
  | .tup _, q => q
  | .scr _, q => q
  | .dic _ _, q => q
def addB : D → D → Option D
  | .tup [], y => some (.btp [y])
  | .btp xs, y => if 0 < xs.length ∧ xs.length ≤ 1000 then some (.btp (xs ++ [y])) else none
  | _, _ => none
def cntB : D → D → Option D
  | .btp xs, y => if okD (.tup xs) && okD y then some (.int (xs.countP fun z => deq z y : Nat)) else none
  | _, _ => none
section
variable {X : Cx} {a b : Expr} {fa fb : En → Option D} {p pos ap : Pos}
theorem pd_fgt (ha : PE X a (tD X.kf fa)) : PE X a (tD X.kf (bind1 (fun d => some (fgtD d)) fa)) := PEi ha fun σ H Q h => by
  obtain ⟨P, F, ρ, d, vw, e, k⟩ := h
  obtain ⟨x, ex, e⟩ := bind_some_iff e
  cases e
  exact ⟨P, F, ρ, x, vw, ex, fun v F1 H1 g1 q1 => k v F1 H1 g1 q1.fgt⟩
theorem fewB {env : Env} (hst : starEach [b] env = [(false, eval b env)]) : ((backTo pos (starEach [b] env)).all (fun x => !x.1) && (backToKw pos (keywordEach [] env)).all (fun x => x.1.isSome) && decide ([b].length + ([] : List Keyword).length + (if ([] : List Keyword).isEmpty then 0 else 1) < 30)) = true := by
  rw [hst]
  rfl
theorem pd_addB {n : Nat} (ha : PE X a (tD X.kf fa)) (hb : PE X b (tD X.kf fb)) (hst : starEach [b] X.env = [(false, eval b X.env)]) : PE X (.BinOp a .Add (.Tuple [b] n p) pos) (tD X.kf (bind2 addB fa fb)) := by
  refine ⟨fun pins s σ H Q I h => ?_⟩
  obtain ⟨P, F, ρ, d, vw, e, k⟩ := h
  obtain ⟨x, ex, e⟩ := bind_some_iff e
  obtain ⟨y, ey, e⟩ := bind_some_iff e
  refine wpAny_BinOp (thn (ha.run pins s σ H (fun v H1 => ∃ F1, Gr F H F1 H1 ∧ Da X.kf F1 v x) I ⟨P, F, ρ, x, vw, ex, fun v F1 H1 g q => ⟨F1, g, q⟩⟩) fun v s1 z => ?_)
  obtain ⟨xv, H1, I1, r1, F1, g1, q1⟩ := z
  refine wpAny_Tuple_spliced (thn ((pa_cons hb pa_nil hst).run p pins s1 σ H1 (fun ys H2 => ∃ F2 w, ys = [w] ∧ Gr F1 H1 F2 H2 ∧ Da X.kf F2 w y) I1 ⟨P, F1, ρ, y, vw.grow g1, ey, fun w F2 H2 g q => ⟨F2, w, rfl, g, q⟩⟩) fun us s2 z => ?_)
  obtain ⟨ys, H2, I2, r2, F2, w, rfl, g2, q2⟩ := z
  have ul : us.length = 1 := r2.length.symm
  refine ⟨by rw [ul]; decide, ?_⟩
  have hf : H2 s2.heap.objs.size = none := I2.hok.fresh (Nat.le_refl _)
  have hp1 := Heap.get?_push_size s2.heap (o := { cls := .type "tuple", data := .seq us.toArray }) rfl
  generalize hsz : s2.heap.objs.size = c at hf hp1 ⊢
  have I3 : Inv X pins σ (upd H2 c (.frz { cls := .type "tuple", data := .seq us.toArray } (.tup [w]))) { s2 with heap := s2.heap.push { cls := .type "tuple", data := .seq us.toArray } } :=
    I2.laid (t' := s2.toks) (fun b u e => Heap.get?_push_of_some _ e) (Nat.le_of_eq hsz) ⟨hp1, (by show 1 ≤ sizeLine; decide), us, r2, ⟨_, hp1, rfl, _, rfl⟩⟩
  have g3 := Gr.laid (o := .frz { cls := .type "tuple", data := .seq us.toArray } (.tup [w])) g2.fh hf
  have q3 : Da X.kf (upd F2 c (.frz { cls := .type "tuple", data := .seq us.toArray } (.tup [w]))) (.ref c) (.btp [y]) := .btp upd_same rfl (.cons (q2.same g3.ff) .nil)
  generalize ({ s2 with heap := s2.heap.push { cls := .type "tuple", data := .seq us.toArray } } : Shared) = s3 at I3
  generalize hH3 : upd H2 c (.frz { cls := .type "tuple", data := .seq us.toArray } (.tup [w])) = H3 at I3 g3
  have hb3 : H3 c = some (.frz { cls := .type "tuple", data := .seq us.toArray } (.tup [w])) := by rw [← hH3]; exact upd_same
  generalize hF3 : upd F2 c (.frz { cls := .type "tuple", data := .seq us.toArray } (.tup [w])) = F3 at g3 q3
  have hF3c : F3 c = some (.frz { cls := .type "tuple", data := .seq us.toArray } (.tup [w])) := by rw [← hF3]; exact upd_same
  have gA := (g1.trans g2).trans g3
  obtain ⟨its2, t2, p2, _⟩ := I3.tuple (.inl (.inr ⟨_, hb3⟩))
  unfold addB at e
  split at e
  · cases e
    cases q1 with
    | tup h1 d1 =>
      cases d1
      cases r1
      obtain ⟨its, t1, p1, _⟩ := I3.tuple (sqT_same ((g2.trans g3).hh) (sqT_same g1.fh h1))
      cases t1
      exact cat_tup0 p1 p2 ⟨.ref c, H3, I3, rfl, k _ F3 H3 gA q3⟩
  · split at e
    · rename_i hl
      cases e
      cases q1 with
      | @btp a o vs ds h1 n1 d1 =>
        cases r1
        have h1' : F3 a = some (.frz o (.tup vs)) := (g2.trans g3).ff _ _ h1
        obtain ⟨its, t1, p1, _⟩ := I3.tuple (.inl (.inr ⟨_, g3.fh _ _ h1'⟩))
        have lv := d1.length
        have l1 := t1.length
        have l2 := t2.length
        refine HT.cat_tup p1 p2 (fun z => by have := congrArg List.length z; simp only [List.length_nil] at this; omega) (fun z => by rw [z] at l2; simp at l2) (fun z => ?_) (by rw [← l1, ← l2, sizeLine_eq]; simp only [List.length_cons, List.length_nil]; omega)
        have hf4 : H3 s3.heap.objs.size = none := I3.hok.fresh (Nat.le_refl _)
        have hp4 := Heap.get?_push_size s3.heap (o := { cls := .type "tuple", data := .seq (its ++ its2).toArray }) rfl
        refine ⟨.ref s3.heap.objs.size, upd H3 s3.heap.objs.size (.frz { cls := .type "tuple", data := .seq (its ++ its2).toArray } (.tup (vs ++ [w]))), ?_, rfl, ?_⟩
        · exact I3.laid (t' := s3.toks) (fun b u e => Heap.get?_push_of_some _ e) (Nat.le_refl _) ⟨hp4, (by rw [List.length_append, sizeLine_eq]; simp only [List.length_cons, List.length_nil]; omega), its ++ its2, t1.append t2, ⟨_, hp4, rfl, _, rfl⟩⟩
        · have g4 := Gr.laid (o := .frz { cls := .type "tuple", data := .seq (its ++ its2).toArray } (.tup (vs ++ [w]))) g3.fh hf4
          exact k _ _ _ (gA.trans g4) (.btp upd_same rfl (((d1.same (g2.trans g3).ff).append (.cons (q2.same g3.ff) .nil)).same g4.ff))
    · cases e
  · cases e
theorem pd_cntB (hu : X.A.units + 65 < cLine) (ha : PE X a (tD X.kf fa)) (hb : PE X b (tD X.kf fb)) (hst : starEach [b] X.env = [(false, eval b X.env)]) (hbase : attributeBase a "count" X.env (eval a X.env) = eval a X.env) (hl : (ap.endLine == pos.line) = true) :
    PE X (.Call (.Attribute a "count" ap) [b] [] pos) (tD X.kf (bind2 cntB fa fb)) := by
  refine ⟨fun pins s σ H Q I h => ?_⟩
  obtain ⟨P, F, ρ, d, vw, e, k⟩ := h
  obtain ⟨x, ex, e⟩ := bind_some_iff e
  obtain ⟨y, ey, e⟩ := bind_some_iff e
  obtain ⟨xs, rfl⟩ : ∃ xs, x = .btp xs := by
    cases x with
    | btp xs => exact ⟨xs, rfl⟩
    | _ => cases e
  have e : (if (okD (.tup xs) && okD y) = true then some (D.int ((xs.countP fun z => deq z y) : Nat)) else none) = some d := e
  split at e
  · rename_i ok
    rw [Bool.and_eq_true] at ok
    cases e
    refine wpAny_Call_method_late hbase (fewB hst) hl rfl (thn (ha.run pins s σ H (fun v H1 => ∃ F1, Gr F H F1 H1 ∧ Da X.kf F1 v (.btp xs)) I ⟨P, F, ρ, _, vw, ex, fun v F1 H1 g q => ⟨F1, g, q⟩⟩) fun v s1 z => ?_)
    obtain ⟨xv, H1, I1, r1, F1, g1, q1⟩ := z
    cases q1 with
    | @btp c o vs ds h1 n1 d1 =>
      cases r1
      have ho1 : s1.heap.get? c = some o := (I1.hok c _ (g1.fh _ _ h1)).1
      obtain ⟨its, t1, p1, _⟩ := I1.tuple (.inl (.inr ⟨_, g1.fh _ _ h1⟩))
      refine ⟨"tuple", "tuple.count", PySem.F.plainAttrs_tuple, PySem.F.slot_tuple_count, PySem.F.type_tuple_count, p1.typeIs, fun a' ea => ?_, ?_⟩
      · cases ea
        exact ⟨o, ho1, n1⟩
      have hA := (pa_cons hb pa_nil hst).run pos pins s1 σ H1 (fun ys H2 => ∃ F2 w, ys = [w] ∧ Gr F1 H1 F2 H2 ∧ Da X.kf F2 w y) I1 ⟨P, F1, ρ, y, vw.grow g1, ey, fun w F2 H2 g q => ⟨F2, w, rfl, g, q⟩⟩
      rw [hst] at hA ⊢
      refine Calls.callWith_builtin rfl (Calls.evalArgs_plain (thn hA fun us s2 z => ?_))
      obtain ⟨ys, H2, I2, r2, F2, w, rfl, g2, q2⟩ := z
      obtain ⟨uy, rfl, ry⟩ := r2.one
      have h2 : H2 c = some (.frz o (.tup vs)) := g2.hh _ _ (g1.fh _ _ h1)
      obtain ⟨its, rv, ⟨⟨cls, dd, data, sls⟩, ho, hc, n, hdt⟩, _⟩ := I2.tuple (.inl (.inr ⟨_, h2⟩))
      dsimp only at hc hdt
      subst hc
      subst hdt
      have sl : SeqAt.shaped (.tuple (toPys xs)) = true := by
        have := ok.1
        unfold okD at this
        rw [toPy] at this
        exact this
      have dp : Dp X.kf H2 (.ref c) (toPy (.tup xs)) := Da.dp g2.fh (.tup (.inl (.inr ⟨_, g2.ff _ _ h1⟩)) (d1.same g2.ff)) (SeqAt.canLay_of_shaped ok.1)
      rw [toPy] at dp
      have dy : Dp X.kf H2 w (toPy y) := q2.dp g2.fh (SeqAt.canLay_of_shaped ok.2)
      obtain ⟨bs, rr⟩ := Dp.reads I2 (toPy y) w uy dy ry
      have lay : PyData.canLayAll0 (toPys xs) = true := SeqAt.canLay_of_shaped sl
      have room : X.A.units + 1 + min (PyData.depthAll (toPys xs)) (toPy y).depth < cLine := room_in_shaped ok.2 hu
      have dall : DpAll X.kf H2 vs (toPys xs) := Das.dp g2.fh (d1.same g2.ff) lay
      obtain ⟨as, h4⟩ := Dp.readsAll I2 (toPys xs) _ its dall rv
      have hmap : its.map (SeqAt.readOf s2.heap) = toPys xs := SeqAt.readsAll_map (toPys xs) its as lay h4
      refine call_meets PySem.F.slot_tuple_count ⟨_, ho, rfl⟩ PySem.F.entry_tuple_count (PySem.F.args_tuple_count_2 _ _) (SeqAt.tuple_countAt c its.toArray n dd sls uy (fun u => PyData.eqv (SeqAt.readOf s2.heap u) (toPy y)))
        ⟨ho, SeqAt.items_eqAt (vs := its.toArray) (show ReadsAll s2.heap its.toArray.toList (toPys xs) as from h4) rr lay (SeqAt.canLay_of_shaped ok.2) room, ?_⟩
      refine ⟨.int ((xs.countP fun z => deq z y) : Nat), H2, I2.tok _, ⟨s2.toks, ?_⟩, k _ F2 H2 (g1.trans g2) (.int _)⟩
      have e5 : (xs.countP fun z => deq z y) = (toPys xs).countP fun z => PyData.eqv z (toPy y) := by
        rw [toPys_map, List.countP_map]
        rfl
      rw [e5, ← hmap, List.countP_map]
      rfl
  · cases e
end
end DL
end
section
/-! tables of larger sets: the masks up to 2047 -/
namespace DL
open PySem PySem.Spec L2
open PyProof.Rows hiding St
/-- the slots that k steps of i -> 5 i + 1 come to, as bits -/
def vis (m : Nat) : Nat → Nat → Nat → Nat
  | 0, _, b => b
  | k + 1, i, b => vis m k ((i * 5 + 1) % (m + 1)) (b ||| (1 <<< i))
theorem vis511 : vis 511 (511 + 1) 0 0 = 2 ^ (511 + 1) - 1 := by decide +kernel
theorem vis2047 : vis 2047 (2047 + 1) 0 0 = 2 ^ (2047 + 1) - 1 := by decide +kernel
theorem vis_bit (m : Nat) : ∀ (k n b j : Nat), (vis m k (lcgN m n) b).testBit j = true → b.testBit j = true ∨ ∃ c, c < n + k ∧ lcgN m c = j
  | 0, n, b, j, h => .inl h
  | k + 1, n, b, j, h => by
    rcases vis_bit m k (n + 1) (b ||| (1 <<< lcgN m n)) j h with z | ⟨c, hc, e⟩
    · rw [Nat.testBit_or, Bool.or_eq_true] at z
      rcases z with z | z
      · exact .inl z
      · rw [Nat.one_shiftLeft, Nat.testBit_two_pow, decide_eq_true_eq] at z
        exact .inr ⟨n, by omega, z⟩
    · exact .inr ⟨c, by omega, e⟩
/-- the masks that come of fewer than 1229 members -/
def Msk (m : Nat) : Prop := m = 7 ∨ m = 31 ∨ m = 127 ∨ m = 511 ∨ m = 2047
theorem vis_all {m : Nat} (h : vis m (m + 1) 0 0 = 2 ^ (m + 1) - 1) {j : Nat} (hj : j ≤ m) : ∃ c, c ≤ m ∧ lcgN m c = j := by
  have hb : (vis m (m + 1) (lcgN m 0) 0).testBit j = true := by
    show (vis m (m + 1) 0 0).testBit j = true
    rw [h, Nat.testBit_two_pow_sub_one, decide_eq_true_eq]
    omega
  rcases vis_bit m (m + 1) 0 0 j hb with z | ⟨c, hc, e⟩
  · rw [Nat.zero_testBit] at z
    cases z
  · exact ⟨c, by omega, e⟩
theorem Msk.all {m : Nat} (hm : Msk m) {j : Nat} (hj : j ≤ m) : ∃ c, c ≤ m ∧ lcgN m c = j := by
  rcases hm with rfl | rfl | rfl | rfl | rfl
  · exact lcg_all (.inl rfl) hj
  · exact lcg_all (.inr (.inl rfl)) hj
  · exact lcg_all (.inr (.inr rfl)) hj
  · exact vis_all vis511 hj
  · exact vis_all vis2047 hj
theorem round511 : lcgN 511 512 = 0 := by decide +kernel
theorem round2047 : lcgN 2047 2048 = 0 := by decide +kernel
theorem Msk.round {m : Nat} (hm : Msk m) : lcgN m (m + 1) = 0 := by
  rcases hm with rfl | rfl | rfl | rfl | rfl
  · exact lcg_round (.inl rfl)
  · exact lcg_round (.inr (.inl rfl))
  · exact lcg_round (.inr (.inr rfl))
  · exact round511
  · exact round2047
theorem Msk.again {m : Nat} (hm : Msk m) (k : Nat) : lcgN m (m + 1 + k) = lcgN m k := by
  induction k with
  | zero => exact hm.round
  | succ k ih =>
    show (lcgN m (m + 1 + k) * 5 + 1) % (m + 1) = _
    rw [ih]
    rfl
theorem Msk.from_ {m : Nat} (hm : Msk m) {i j : Nat} (hi : i ≤ m) (hj : j ≤ m) : ∃ k, k ≤ m ∧ lcgI m i k = j := by
  obtain ⟨a, ha, rfl⟩ := hm.all hi
  obtain ⟨b, hb, rfl⟩ := hm.all hj
  by_cases c : a ≤ b
  · exact ⟨b - a, by omega, by rw [lcgN_add, Nat.add_sub_cancel' c]⟩
  · refine ⟨m + 1 + b - a, by omega, ?_⟩
    rw [lcgN_add, show a + (m + 1 + b - a) = m + 1 + b by omega, hm.again]
theorem Msk.run {m : Nat} (hm : Msk m) (h : Int) {j : Nat} (hj : j ≤ m) : ∃ n, n ≤ m + 12 ∧ runI m (SetTable.bits h) n = j := by
  obtain ⟨k, hk, e⟩ := hm.from_ (runI_le m (SetTable.bits h) 12) hj
  exact ⟨12 + k, by omega, (runI_tail (bits_lt h) k).trans e⟩
theorem Msk.meet {m : Nat} (hm : Msk m) (h : Int) {j : Nat} (hj : j ≤ m) : ∃ k, k < 10 * (m + 15) ∧ way m h k = j := by
  obtain ⟨n, hn, e⟩ := hm.run h hj
  obtain ⟨k, hk, e2⟩ := run_nth m (SetTable.bits h) n
  exact ⟨k, by omega, (congrArg SetTable.Probe.j e2).trans e⟩
theorem way_in (m : Nat) (h : Int) (k : Nat) : way m h k ≤ m := by
  have hi : SetTable.bits h % (m + 1) ≤ m := Nat.le_of_lt_succ (Nat.mod_lt _ (Nat.succ_pos m))
  have hr := runEnd_bd hi
  have h0 : (runAt m (SetTable.bits h % (m + 1)) (SetTable.bits h)).j + (runAt m (SetTable.bits h % (m + 1)) (SetTable.bits h)).more ≤ m := by
    unfold runAt
    dsimp only
    omega
  exact Nat.le_trans (Nat.le_add_right _ _) (nth_in k _ h0)
/-- a table; hs are the members' hashes, in the slots' order -/
structure Tb (t : SetTable) (hs : List Int) : Prop where
  ris : Ris t.place.toList
  dm : t.dummies = #[]
  sz : t.place.toList.length = hs.length
  msk : Msk t.mask
  bd : ∀ x ∈ t.place.toList, x ≤ t.mask
  fnd : ∀ q ∈ hs.zip t.place.toList, ∃ k, way t.mask q.1 k = q.2 ∧ ∀ c, c < k → way t.mask q.1 c ∈ t.place.toList
theorem Tb.gap {t : SetTable} {hs : List Int} (T : Tb t hs) (hl : hs.length ≤ t.mask) (h : Int) : ∃ K, K < 10 * (t.mask + 15) ∧ way t.mask h K ∉ t.place.toList ∧ ∀ c, c < K → way t.mask h c ∈ t.place.toList := by
  obtain ⟨j, hj, hn⟩ := st_missing t.place.toList (t.mask + 1) (by rw [T.sz]; omega)
  obtain ⟨k, hk, rfl⟩ := T.msk.meet h (Nat.le_of_lt_succ hj)
  obtain ⟨K, h1, h2, h3⟩ := st_least (p := fun c => way t.mask h c ∉ t.place.toList) k hn
  exact ⟨K, by omega, h2, fun c hc => Classical.not_not.mp (h3 c hc)⟩
theorem Tb.upto {t : SetTable} {hs : List Int} (T : Tb t hs) {h : Int} {K j : Nat} (hK : way t.mask h K ∉ t.place.toList) (hq : (h, j) ∈ hs.zip t.place.toList) : ∃ c, c < K ∧ way t.mask h c = j := by
  obtain ⟨k, e, hb⟩ := T.fnd _ hq
  refine ⟨k, Nat.lt_of_not_le fun z => ?_, e⟩
  rcases Nat.lt_or_eq_of_le z with w | w
  · exact hK (hb K w)
  · subst w
    rw [e] at hK
    exact hK (List.of_mem_zip hq).2
theorem zip_ins {α β : Type} {xs : List α} {ys : List β} (hl : xs.length = ys.length) (p : Nat) (x : α) (y : β) {q : α × β} (h : q ∈ (xs.take p ++ x :: xs.drop p).zip (ys.take p ++ y :: ys.drop p)) : q = (x, y) ∨ q ∈ xs.zip ys := by
  rw [List.zip_append (by rw [List.length_take, List.length_take, hl]), List.zip_cons_cons] at h
  rcases List.mem_append.mp h with z | z
  · refine .inr (List.mem_of_mem_take (i := p) ?_)
    unfold List.zip at z ⊢
    rw [List.take_zipWith]
    exact z
  · rcases List.mem_cons.mp z with z | z
    · exact .inl z
    · refine .inr (List.mem_of_mem_drop (i := p) ?_)
      unfold List.zip at z ⊢
      rw [List.drop_zipWith]
      exact z
/-- one more -/
theorem Tb.ins {t : SetTable} {hs : List Int} (T : Tb t hs) {h : Int} {K : Nat} (hK : way t.mask h K ∉ t.place.toList) (hb : ∀ c, c < K → way t.mask h c ∈ t.place.toList) :
    SetTable.below t.place (way t.mask h K) ≤ hs.length ∧ Tb (t.put (way t.mask h K)).1 (hs.take (SetTable.below t.place (way t.mask h K)) ++ h :: hs.drop (SetTable.below t.place (way t.mask h K))) ∧ (t.put (way t.mask h K)).1.fill = hs.length + 1 := by
  have hm := way_in t.mask h K
  generalize ej : way t.mask h K = j at hK hm
  have hp : SetTable.below t.place j ≤ t.place.toList.length := by
    rw [Array.length_toList]
    exact (below_cut T.ris j).1
  have hpl := put_place t j
  have hin : ∀ {x : Nat}, x ∈ t.place.toList → x ∈ (t.put j).1.place.toList := fun hx => by rw [hpl]; exact mem_ins.mpr (.inr hx)
  have hlen : (t.put j).1.place.toList.length = hs.length + 1 := by rw [hpl, len_ins _ hp, T.sz]
  have hph : SetTable.below t.place j ≤ hs.length := by rw [← T.sz]; exact hp
  have hnp : t.place[SetTable.below t.place j]? ≠ some j := fun e => hK (List.mem_of_getElem? ((Array.getElem?_toList ..).trans e))
  refine ⟨hph, ⟨ris_insert T.ris hnp, put_dm T.dm j, by rw [hlen, len_ins _ hph], T.msk, fun x hx => ?_, fun q hq => ?_⟩, ?_⟩
  · rw [hpl, mem_ins] at hx
    exact hx.elim (fun z => z ▸ hm) (T.bd x)
  · rw [hpl] at hq
    rcases zip_ins T.sz.symm _ _ _ hq with rfl | z
    · exact ⟨K, ej, fun c hc => hin (hb c hc)⟩
    · obtain ⟨k, e, g⟩ := T.fnd q z
      exact ⟨k, e, fun c hc => hin (g c hc)⟩
  · unfold SetTable.fill
    rw [put_dm T.dm j, ← Array.length_toList, hlen]
    rfl
/-! laying all anew -/
theorem seat {m : Nat} (hm : Msk m) (owner : Array (Option Nat)) (h : Int) {j : Nat} (hj : j ≤ m) (hf : oAt owner j = none) :
    ∃ K, SetTable.layClean.free m owner (SetTable.turns m) (SetTable.bits h % (m + 1)) (SetTable.bits h) = some (way m h K) ∧ oAt owner (way m h K) = none ∧ ∀ c, c < K → oAt owner (way m h c) ≠ none := by
  obtain ⟨n, hn, e⟩ := hm.run h hj
  have hw : oAt owner (way m h (off m (SetTable.bits h % (m + 1)) (SetTable.bits h) n)) = none := by
    unfold way
    rw [nth_off, itL_run]
    show oAt owner (runI m (SetTable.bits h) n) = none
    rw [e]
    exact hf
  obtain ⟨K, k1, k2, k3⟩ := st_least (p := fun c => oAt owner (way m h c) = none) _ hw
  refine ⟨K, free_spec m owner _ n _ _ K (by show n < m + 15; omega) k1 (fun c hc => ?_) ?_, k2, k3⟩
  · have := k3 c hc
    unfold way at this
    cases z : oAt owner (nth m (runAt m (SetTable.bits h % (m + 1)) (SetTable.bits h)) c).j with
    | none => exact absurd z this
    | some _ => rfl
  · unfold way at k2
    rw [k2]
    rfl
theorem own_next {m : Nat} (hm : Msk m) {done : List Int} {owner : Array (Option Nat)} (W : Own m done owner) (hl : done.length ≤ m) (h : Int) :
    ∃ j, SetTable.layClean.free m owner (SetTable.turns m) (SetTable.bits h % (m + 1)) (SetTable.bits h) = some j ∧ Own m (done ++ [h]) (owner.setIfInBounds j (some done.length)) := by
  obtain ⟨ps, pl, pa⟩ := W.ps
  obtain ⟨f, hf, fn⟩ := st_missing ps (m + 1) (by omega)
  obtain ⟨K, e1, e2, e3⟩ := seat hm owner h (Nat.le_of_lt_succ hf) (Classical.byContradiction fun z => fn (pa f (Nat.le_of_lt_succ hf) z))
  have hw := way_in m h K
  generalize ej : way m h K = j at e1 e2 hw
  have hz : j < owner.size := by rw [W.sz]; omega
  have self := oAt_set_self (some done.length) hz
  have still : ∀ {x : Nat}, oAt owner x ≠ none → oAt (owner.setIfInBounds j (some done.length)) x ≠ none := fun {x} hx => by
    by_cases c : x = j
    · subst c; exact absurd e2 hx
    · rw [oAt_set_ne _ c]; exact hx
  refine ⟨j, e1, by rw [Array.size_setIfInBounds, W.sz], fun x k hx e => ?_, fun k hk => ?_, j :: ps, by rw [List.length_cons, List.length_append, pl]; rfl, fun x hx e => ?_⟩
  · by_cases c : x = j
    · subst c
      rw [self] at e
      cases e
      exact ⟨h, K, List.getElem?_concat_length, ej, fun c hc => still (e3 c hc)⟩
    · rw [oAt_set_ne _ c] at e
      obtain ⟨h', K', a1, a2, a3⟩ := W.at_ x k hx e
      exact ⟨h', K', by rw [List.getElem?_append_left (List.getElem?_eq_some_iff.mp a1).1, a1], a2, fun c hc => still (a3 c hc)⟩
  · rw [List.length_append, List.length_singleton] at hk
    rcases Nat.lt_or_eq_of_le (Nat.le_of_lt_succ hk) with c | c
    · obtain ⟨x, hx, e⟩ := W.all k c
      have : x ≠ j := fun z => by rw [z, e2] at e; cases e
      exact ⟨x, hx, by rw [oAt_set_ne _ this, e]⟩
    · subst c; exact ⟨j, hw, self⟩
  · by_cases c : x = j
    · subst c; exact List.mem_cons_self
    · rw [oAt_set_ne _ c] at e
      exact List.mem_cons_of_mem _ (pa x hx e)
theorem own_all {m : Nat} (hm : Msk m) (rest : List Int) : ∀ (done : List Int) (owner : Array (Option Nat)), Own m done owner → done.length + rest.length ≤ m →
    ∃ o, rest.foldl (stepF m) (some (owner, done.length)) = some (o, done.length + rest.length) ∧ Own m (done ++ rest) o := by
  induction rest with
  | nil => exact fun done owner W _ => ⟨owner, rfl, by rw [List.append_nil]; exact W⟩
  | cons h rest ih =>
    intro done owner W hl
    rw [List.length_cons] at hl
    obtain ⟨j, e, W1⟩ := own_next hm W (by omega) h
    have := ih (done ++ [h]) _ W1 (by rw [List.length_append, List.length_singleton]; omega)
    rw [List.length_append, List.length_singleton, List.append_assoc, List.singleton_append] at this
    obtain ⟨o, o1, o2⟩ := this
    refine ⟨o, ?_, o2⟩
    rw [List.foldl_cons, stepF_some e, o1, List.length_cons]
    congr 2
    omega
theorem relay_new (t : SetTable) {hs : Array Int} {wanted m : Nat} (hw : SetTable.sizeAbove wanted = m + 1) (hm : Msk m) (hn : hs.size ≤ m) :
    ∃ t' order, t.relaid hs wanted = some (t', order) ∧ order.toList.Perm (List.range hs.size) ∧ Tb t' (order.toList.map fun i => hs.getD i 0) ∧ t'.mask = m ∧ t'.led = t.led ∧ t'.plain = t.plain := by
  obtain ⟨o, o1, W⟩ := own_all hm hs.toList [] _ (Own.init m) (by rw [Array.length_toList]; simpa using hn)
  rw [List.nil_append] at W
  have lc : SetTable.layClean m hs = some o := by
    rw [layClean_eq]
    exact congrArg (Option.map (·.1)) o1
  have hr : t.relaid hs wanted = some (tabOf t m o, ((liveOf m o).map (·.2)).toArray) := by
    rw [relaid_eq, hw, show m + 1 - 1 = m from rfl, lc]
    rfl
  have rl := ris_live (fun j => o.getD j none) (List.range (m + 1)) List.pairwise_lt_range
  have r1 : Ris ((liveOf m o).map (·.1)) := rl.1
  have ml : ∀ {q : Nat × Nat}, q ∈ liveOf m o → q.1 ≤ m ∧ oAt o q.1 = some q.2 := fun {q} hq => (mem_live W.sz).mp hq
  have len : (liveOf m o).length = hs.size := by
    obtain ⟨ps, p1, p2⟩ := W.ps
    have p1 : ps.length = hs.size := p1.trans Array.length_toList
    refine Nat.le_antisymm ?_ ?_
    · have := nat_nodup_len ((liveOf m o).map fun q : Nat × Nat => q.1) ps (List.Pairwise.imp (S := fun a b => a ≠ b) (fun h => Nat.ne_of_lt h) r1) fun x hx => by
        obtain ⟨q, hq, rfl⟩ := List.mem_map.mp hx
        exact p2 _ (ml hq).1 (by rw [(ml hq).2]; exact fun z => nomatch z)
      rw [List.length_map] at this
      rw [← p1]
      exact this
    · have := nat_nodup_len (List.range hs.size) ((liveOf m o).map (·.2)) List.nodup_range fun k hk => by
        obtain ⟨x, b1, b2⟩ := W.all k (by rw [Array.length_toList]; exact List.mem_range.mp hk)
        exact List.mem_map.mpr ⟨(x, k), (mem_live W.sz).mpr ⟨b1, b2⟩, rfl⟩
      rwa [List.length_range, List.length_map] at this
  refine ⟨_, _, hr, perm_range _ _ (by rw [List.length_map]; exact len) fun k hk => ?_, ⟨r1, rfl, ?_, hm, fun x hx => ?_, fun q hq => ?_⟩, rfl, rfl, rfl⟩
  · obtain ⟨x, b1, b2⟩ := W.all k (by rw [Array.length_toList]; exact hk)
    exact List.mem_map.mpr ⟨(x, k), (mem_live W.sz).mpr ⟨b1, b2⟩, rfl⟩
  · show ((liveOf m o).map (·.1)).length = (((liveOf m o).map (·.2)).map fun i => hs.getD i 0).length
    rw [List.length_map, List.length_map, List.length_map]
  · obtain ⟨q, hq, rfl⟩ := List.mem_map.mp (show x ∈ (liveOf m o).map (·.1) from hx)
    exact (ml hq).1
  · have hq : q ∈ (((liveOf m o).map (·.2)).map fun i => hs.getD i 0).zip ((liveOf m o).map (·.1)) := hq
    rw [List.map_map, List.zip_map'] at hq
    obtain ⟨⟨x, k⟩, hx, rfl⟩ := List.mem_map.mp hq
    obtain ⟨b1, b2⟩ := ml hx
    obtain ⟨h0, K, a1, a2, a3⟩ := W.at_ x k b1 b2
    have eh : hs.getD k 0 = h0 := by
      rw [Array.getElem?_toList] at a1
      rw [Array.getD_eq_getD_getElem?, a1]
      rfl
    refine ⟨K, by rw [← eh] at a2; exact a2, fun c hc => ?_⟩
    show way m (hs.getD k 0) c ∈ (liveOf m o).map (·.1)
    rw [eh]
    cases z : oAt o (way m h0 c) with
    | none => exact absurd z (a3 c hc)
    | some k2 => exact List.mem_map.mpr ⟨(way m h0 c, k2), (mem_live W.sz).mpr ⟨way_in m h0 c, z⟩, rfl⟩
end DL
end
section
/-! sets of tuples of numbers and texts: the search, adding -/
namespace DL
open PySem PySem.Spec L2
open PyProof.Rows hiding St
abbrev hX (P : Program) (w : World) (k : List Key) : Int := tupleKeyHash (mixKind P w) k
abbrev IsK (P : Program) (w : World) (h : Heap) (k : List Key) (b : Addr) : Prop := IsTupleKey (mixKind P w) h k b
section
variable {P : Program} {w : World} {A : Around} {E : Value → Shared → Prop} {s : Shared}
/-- a number or a text -/
def flat : Value → Bool
  | .int _ _ => true
  | .str _ _ => true
  | _ => false
theorem flat_key {k : Key} {v : Value} (h : (mixKind P w).is k v = true) : flat v = true := by
  rw [mixKind_is] at h
  cases k <;> cases v <;> first | rfl | exact absurd h Bool.false_ne_true | cases h
theorem flat_items {k : List Key} {vs : List Value} (h : ItemsAre (mixKind P w) k vs) : ∀ v ∈ vs, flat v = true := by
  induction h with
  | nil => exact fun v hv => nomatch hv
  | cons h1 _ ih =>
    intro v hv
    rcases List.mem_cons.mp hv with rfl | hv
    · exact flat_key h1
    · exact ih v hv
theorem flat_class {v : Value} (h : flat v = true) (n : Nat) : ofAClassStatement n v = pure false := by
  cases v <;> first | (cases n <;> rfl) | exact absurd h Bool.false_ne_true
theorem flat_hash {v : Value} (h : flat v = true) (n : Nat) : ∃ b, hashByValue n v = pure b := by
  cases v with
  | int i t => exact ⟨true, by cases n <;> rfl⟩
  | str x t => exact ⟨false, by cases n <;> rfl⟩
  | _ => exact absurd h Bool.false_ne_true
theorem cls_tup {k : List Key} {b : Addr} {Q : Bool → Shared → Prop} (hk : IsK P w s.heap k b) (h : Q false s) : wpAny (model P w) A (ofAClassStatement 8 (.ref b)) Q E s := by
  have hT := hk.typeIs
  obtain ⟨o, its, n, ho, _, hd, hi⟩ := hk
  unfold ofAClassStatement
  refine wpAny_bind (wpAny_typeOf hT ?_)
  dsimp only
  simp only [show (("tuple" : String) == "tuple") = true by decide, if_true]
  try refine wpAny_bind (wpAny_pure ?_)
  try simp only [Bool.not_true, Bool.false_eq_true, if_false]
  refine wpAny_bind (wpAny_seqItems ho hd ?_)
  dsimp only
  refine wpAny_bind ?_
  rw [← Array.forIn_toList]
  refine wpAny_forIn_list _ (fun l r s' => (r.1 = none ∧ s' = s) ∧ ∀ v ∈ l, flat v = true) _ (fun v l r s' hI => ?_) (fun r s' hI => ?_) _ _ ⟨⟨rfl, rfl⟩, flat_items hi⟩
  · obtain ⟨⟨_, rfl⟩, hf⟩ := hI
    rw [flat_class (hf v List.mem_cons_self)]
    refine wpAny_bind (wpAny_pure ?_)
    simp only [Bool.false_eq_true, if_false]
    exact wpAny_pure ⟨⟨rfl, rfl⟩, fun u hu => hf u (List.mem_cons_of_mem _ hu)⟩
  · obtain ⟨⟨h1, rfl⟩, _⟩ := hI
    obtain ⟨r1, r2⟩ := r
    cases h1
    exact wpAny_pure h
theorem byv_tup {k : List Key} {b : Addr} {Q : Bool → Shared → Prop} (hk : IsK P w s.heap k b) (h : ∀ z, Q z s) : wpAny (model P w) A (hashByValue 8 (.ref b)) Q E s := by
  have hT := hk.typeIs
  obtain ⟨o, its, n, ho, _, hd, hi⟩ := hk
  unfold hashByValue
  refine wpAny_bind (wpAny_specialOf hT F.slot_tuple_hash.lookup ?_)
  refine wpAny_bind (wpAny_seqItems ho hd ?_)
  refine wpAny_bind ?_
  dsimp only [Option.getD]
  rw [← Array.forIn_toList]
  refine wpAny_forIn_list _ (fun l r s' => s' = s ∧ (r.1 = none ∨ r.1 = some false) ∧ ∀ v ∈ l, flat v = true) _ (fun v l r s' hI => ?_) (fun r s' hI => ?_) _ _ ⟨rfl, .inl rfl, flat_items hi⟩
  · obtain ⟨rfl, _, hf⟩ := hI
    obtain ⟨z, ez⟩ := flat_hash (hf v List.mem_cons_self) 7
    rw [ez]
    refine wpAny_bind (wpAny_pure ?_)
    cases z with
    | true =>
      simp only [Bool.not_true, Bool.false_eq_true, if_false]
      exact wpAny_pure ⟨rfl, .inl rfl, fun u hu => hf u (List.mem_cons_of_mem _ hu)⟩
    | false =>
      simp only [Bool.not_false, if_true]
      exact wpAny_pure (show wpAny _ _ (pure false) _ _ _ from wpAny_pure (h _))
  · obtain ⟨rfl, h1, _⟩ := hI
    obtain ⟨r1, r2⟩ := r
    rcases h1 with h1 | h1
    · cases h1
      exact wpAny_pure (h _)
    · cases h1
      exact wpAny_pure (h _)
theorem unseen {k : List Key} {b : Addr} {Q : Bool → Shared → Prop} (hk : IsK P w s.heap k b) {ys : List Value} (hy : ∀ y ∈ ys, ∃ k' c, y = Value.ref c ∧ IsK P w s.heap k' c) (h : Q false s) : wpAny (model P w) A (searchCouldBeSeen (.ref b) ys) Q E s := by
  unfold searchCouldBeSeen
  refine wpAny_bind (wpAny_forIn_list _ (fun l r s' => (r.1 = none ∧ s' = s) ∧ ∀ y ∈ l, ∃ k' c, y = Value.ref c ∧ IsK P w s.heap k' c) _ (fun v l r s' hI => ?_) (fun r s' hI => ?_) _ _ ⟨⟨rfl, rfl⟩, hy⟩)
  · obtain ⟨⟨_, rfl⟩, hf⟩ := hI
    obtain ⟨k', c, rfl, hc⟩ := hf v List.mem_cons_self
    have tail := fun u hu => hf u (List.mem_cons_of_mem _ hu)
    dsimp only
    by_cases hv : (b == c || (carriedByValue (.ref b) && carriedByValue (.ref c))) = true
    · exact wp_if_pos hv (wpAny_pure ⟨⟨rfl, rfl⟩, tail⟩)
    · refine wp_if_neg hv (wpAny_bind (wpAny_eqIsQuiet_tuple hk ?_))
      simp only [Bool.not_true, Bool.false_eq_true, if_false]
      refine wpAny_bind (wpAny_eqIsQuiet_tuple hc ?_)
      simp only [Bool.not_true, Bool.false_eq_true, if_false]
      refine wpAny_bind (cls_tup hk (wpAny_bind (cls_tup hc ?_)))
      simp only [Bool.false_eq_true, if_false]
      exact wpAny_pure ⟨⟨rfl, rfl⟩, tail⟩
  · obtain ⟨⟨h1, rfl⟩, _⟩ := hI
    obtain ⟨r1, r2⟩ := r
    cases h1
    exact wpAny_pure h
/-- the members as the set holds them -/
def rws (P : Program) (w : World) (L : List (Addr × List Key)) : List (Int × Value) := L.map fun p => (hX P w p.2, Value.ref p.1)
structure SX (P : Program) (w : World) (h : Heap) (a : Addr) (L : List (Addr × List Key)) (es : Array (Int × Value)) (ep : Nat) (t : SetTable) : Prop where
  ob : ∃ o, h.get? a = some o ∧ o.ExactSet ∧ o.data = .set es ep t
  rows : es.toList = rws P w L
  tb : Tb t (L.map fun p => hX P w p.2)
  nd : (L.map (·.2)).Nodup
  el : ∀ p ∈ L, IsK P w h p.2 p.1
  led : w.params.followText "set-order" = true ∨ t.led = true
  room : L.length * 5 < t.mask * 3
  few : L.length < 1200
variable {a : Addr} {L : List (Addr × List Key)} {es : Array (Int × Value)} {ep : Nat} {t : SetTable}
theorem rws_size (h : es.toList = rws P w L) : es.size = L.length := by
  have := congrArg List.length h
  unfold rws at this
  rwa [Array.length_toList, List.length_map] at this
theorem rws_at (h : es.toList = rws P w L) {i : Nat} {p : Addr × List Key} (hp : L[i]? = some p) : es[i]? = some (hX P w p.2, Value.ref p.1) := by
  rw [← Array.getElem?_toList, h]
  unfold rws
  rw [List.getElem?_map, hp]
  rfl
theorem fits_of {n : Nat} (h1 : t.place.toList.length = n) (h2 : t.dummies = #[]) (h3 : n ≤ t.mask) : t.fits n = true := by
  unfold SetTable.fits SetTable.fill
  rw [Array.length_toList] at h1
  rw [h2, h1, beq_self_eq_true, Bool.true_and, decide_eq_true_eq]
  exact h3
theorem SX.fits (R : SX P w s.heap a L es ep t) : t.fits es.size = true := by
  have h1 := rws_size R.rows
  have h2 := R.room
  have h3 := R.tb.sz
  rw [List.length_map] at h3
  exact fits_of (by rw [h1]; exact h3) R.tb.dm (by omega)
theorem msk_odd {m : Nat} (h : Msk m) : (m % 2 == 0) = false := by
  rcases h with rfl | rfl | rfl | rfl | rfl <;> rfl
theorem nth_dm (m : Nat) : ∀ (n : Nat) (p : SetTable.Probe), p.dummy = none → (nth m p n).dummy = none
  | 0, _, h => h
  | n + 1, p, h => nth_dm m n (adv m p) (by unfold adv; split <;> exact h)
/-- from the c-th step of the way on -/
theorem SX.seek (R : SX P w s.heap a L es ep t) {x : Addr} {k : List Key} (hx : IsK P w s.heap k x) (hu : A.units < cLine) {K : Nat} (hKf : K < 10 * SetTable.turns t.mask)
    (hK : way t.mask (hX P w k) K ∉ t.place.toList) (hKb : ∀ c, c < K → way t.mask (hX P w k) c ∈ t.place.toList) {Q : SetFound → Shared → Prop}
    (hin : k ∈ L.map (·.2) → Q (.there none) s) (hout : k ∉ L.map (·.2) → Q (.free (way t.mask (hX P w k) K) false) s) (f : Nat) :
    ∀ (c : Nat) (st : Option SetTable.Probe), st.getD (t.probeStart (hX P w k)) = nth t.mask (t.probeStart (hX P w k)) c → c ≤ K → K < f + c →
      (∀ (i : Nat) p, L[i]? = some p → p.2 = k → ∃ e, c ≤ e ∧ e < K ∧ t.place.toList[i]? = some (way t.mask (hX P w k) e)) → wpAny (model P w) A (setSearchFrom a (.ref x) (hX P w k) true f st) Q E s := by
  induction f with
  | zero => exact fun c st _ h1 h2 _ => by omega
  | succ f ih =>
    intro c st hst hc hf hre
    obtain ⟨o, ho, hex, hd⟩ := R.ob
    rw [setSearchFrom_succ]
    refine wpAny_bind (wpAny_setState_of ho hd R.fits (wp_if_neg ?_ ?_))
    · show ¬ (t.mask % 2 == 0) = true
      rw [msk_odd R.tb.msk]
      exact Bool.false_ne_true
    try refine wpAny_bind (wpAny_pure ?_)
    have sh : ∀ q, nth t.mask (nth t.mask (t.probeStart (hX P w k)) c) q = nth t.mask (t.probeStart (hX P w k)) (c + q) := fun q => (nth_add t.mask c _ q).symm
    have wy : ∀ q, (nth t.mask (nth t.mask (t.probeStart (hX P w k)) c) q).j = way t.mask (hX P w k) (c + q) := fun q => congrArg SetTable.Probe.j (sh q)
    have eK : c + (K - c) = K := by omega
    have sp := go_spec t R.tb.ris R.tb.dm (fun i => (es[i]?.map (·.1)).getD 0) (hX P w k) (10 * SetTable.turns t.mask) (K - c) _ (nth_dm t.mask c (t.probeStart (hX P w k)) rfl) (by omega) (fun q hq => by rw [wy]; exact hKb _ (by omega)) (by rw [wy, eK]; exact hK)
    have hat : ∀ {i : Nat} {p : Addr × List Key}, L[i]? = some p → (es[i]?.map (·.1)).getD 0 = hX P w p.2 := fun hp => by
      rw [rws_at R.rows hp]
      rfl
    rcases sp with ⟨q, i, hq, hi, hh, hno, hpr⟩ | ⟨hno, hpr⟩
    · have hpr' : t.probe (fun i => (es[i]?.map (·.1)).getD 0) (hX P w k) (st.getD (t.probeStart (hX P w k))) = some (.candidate (way t.mask (hX P w k) (c + q)) i (nth t.mask (t.probeStart (hX P w k)) (c + (q + 1)))) := by
        rw [hst, ← wy, ← sh]
        exact hpr
      rw [hpr']
      dsimp only
      rw [wy] at hi
      obtain ⟨p, hp⟩ : ∃ p, L[i]? = some p := by
        have h1 := (List.getElem?_eq_some_iff.mp hi).1
        rw [R.tb.sz, List.length_map] at h1
        exact ⟨_, List.getElem?_eq_getElem h1⟩
      have hm := List.mem_of_getElem? hp
      have go : wpAny (model P w) A (searchRest a (.ref x) (hX P w k) true f es t (way t.mask (hX P w k) (c + q)) i (nth t.mask (t.probeStart (hX P w k)) (c + (q + 1)))) Q E s := by
        unfold searchRest
        rw [rws_at R.rows hp]
        refine wpAny_bind (wpAny_holding (wpAny_eqBool_tuple hu (R.el p hm) hx (wpAny_bind (wpAny_setState_of ho hd R.fits ?_))))
        dsimp only
        by_cases hkk : p.2 = k
        · exact wp_if_pos (by simp [hkk]) (wpAny_pure (hin (List.mem_map.mpr ⟨p, hm, hkk⟩)))
        · refine wp_if_neg (by simp [hkk]) ?_
          try refine wpAny_bind (wpAny_pure ?_)
          rw [sameMem]
          have hsl := slot_live R.tb.ris hi
          simp only [if_true, hsl, rws_at R.rows hp]
          refine wpAny_bind (wpAny_isSame_ref_self (wpAny_bind (wpAny_pure ?_)))
          simp only [if_true]
          refine wp_if_neg (by simp [hkk]) (ih (c + (q + 1)) _ rfl (by omega) (by omega) fun i0 p0 h0 hk0 => ?_)
          obtain ⟨e, e1, e2, e3⟩ := hre i0 p0 h0 hk0
          have lt : c + q < e := Nat.lt_of_not_le fun (z : e ≤ c + q) => ?_
          · exact ⟨e, by omega, e2, e3⟩
          rcases Nat.lt_or_eq_of_le z with y | y
          · exact hno (e - c) i0 (by omega) (by rw [wy, show c + (e - c) = e by omega]; exact e3) ((hat h0).trans (by rw [hk0]))
          · subst y
            have := slot_live R.tb.ris e3
            rw [hsl] at this
            cases this
            rw [hp] at h0
            cases h0
            exact hkk hk0
      by_cases hl : t.led = true
      · refine wp_if_neg (by simp [hl]) ?_
        try refine wpAny_bind (wpAny_pure ?_)
        exact go
      · refine wp_if_pos (by simp [hl]) (wpAny_bind (unseen hx (fun y hy => ?_) (wp_if_neg (by decide) ?_)))
        · obtain ⟨e, he, rfl⟩ := List.mem_map.mp hy
          have he2 : e ∈ es.toList := by
            have := (Array.mem_filter.mp (Array.mem_toList_iff.mp he)).1
            exact Array.mem_toList_iff.mpr this
          rw [R.rows] at he2
          obtain ⟨p2, hp2, rfl⟩ := List.mem_map.mp he2
          exact ⟨p2.2, p2.1, rfl, R.el p2 hp2⟩
        · try refine wpAny_bind (wpAny_pure ?_)
          exact go
    · have hpr' : t.probe (fun i => (es[i]?.map (·.1)).getD 0) (hX P w k) (st.getD (t.probeStart (hX P w k))) = some (.empty (way t.mask (hX P w k) K) none) := by
        rw [hst, ← eK, ← wy]
        exact hpr
      rw [hpr']
      refine wpAny_pure (hout fun hm => ?_)
      obtain ⟨p0, h0, hk0⟩ := List.mem_map.mp hm
      obtain ⟨i0, h00⟩ := List.getElem?_of_mem h0
      obtain ⟨e, e1, e2, e3⟩ := hre i0 p0 h00 hk0
      exact hno (e - c) i0 (by omega) (by rw [wy, show c + (e - c) = e by omega]; exact e3) ((hat h00).trans (by rw [hk0]))
theorem SX.find (R : SX P w s.heap a L es ep t) {x : Addr} {k : List Key} (hx : IsK P w s.heap k x) (hu : A.units < cLine) {Q : SetFound → Shared → Prop} (hin : k ∈ L.map (·.2) → Q (.there none) s)
    (hout : ∀ K, k ∉ L.map (·.2) → way t.mask (hX P w k) K ∉ t.place.toList → (∀ c, c < K → way t.mask (hX P w k) c ∈ t.place.toList) → Q (.free (way t.mask (hX P w k) K) false) s) : wpAny (model P w) A (setSearch a (.ref x) (hX P w k) true) Q E s := by
  have hr := R.room
  obtain ⟨K, k1, k2, k3⟩ := R.tb.gap (by rw [List.length_map]; omega) (hX P w k)
  have hb : t.mask ≤ 2047 := by rcases R.tb.msk with e | e | e | e | e <;> omega
  refine R.seek hx hu k1 k2 k3 hin (fun hn => hout K hn k2 k3) 100000 0 none rfl (Nat.zero_le _) (by omega) fun i p hp hk => ?_
  have hi : i < t.place.toList.length := by
    rw [R.tb.sz, List.length_map]
    exact (List.getElem?_eq_some_iff.mp hp).1
  obtain ⟨c, hc, e⟩ := R.tb.upto (j := t.place.toList[i]) k2 (List.mem_of_getElem? (i := i) (by
    rw [List.getElem?_zip_eq_some]
    exact ⟨by rw [List.getElem?_map, hp, ← hk]; rfl, List.getElem?_eq_getElem hi⟩))
  exact ⟨c, Nat.zero_le _, hc, by rw [e]; exact List.getElem?_eq_getElem hi⟩
end
end DL
end
section
/-! sets of tuples of numbers and texts: adding -/
namespace DL
open PySem PySem.Spec L2
open PyProof.Rows hiding St
section
variable {P : Program} {w : World} {A : Around} {E : Value → Shared → Prop} {s : Shared} {a : Addr} {L : List (Addr × List Key)} {es : Array (Int × Value)} {ep : Nat} {t : SetTable}
theorem isK_but {h h' : Heap} {k : List Key} {b : Addr} {o : Obj} (hb : IsK P w h k b) (ho : h.get? a = some o) (hd : o.data = .set es ep t) (hs : Heap.SameBut a h h') : IsK P w h' k b := by
  obtain ⟨o2, its, n, h1, h2, h3, h4⟩ := hb
  refine ⟨o2, its, n, (hs.2 b fun z => ?_).trans h1, h2, h3, h4⟩
  subst z
  rw [ho] at h1
  cases h1
  rw [hd] at h3
  cases h3
theorem pick_all {α : Type} (L : List α) : ∀ n, n ≤ L.length → (List.range n).filterMap (fun i => L[i]?) = L.take n
  | 0, _ => rfl
  | n + 1, h => by
    rw [List.range_succ, List.filterMap_append, pick_all L n (by omega), List.take_add_one]
    congr 1
theorem pick_rows (hr : es.toList = rws P w L) {order : Array Nat} (hp : order.toList.Perm (List.range L.length)) :
    ∃ M, (order.filterMap (es[·]?)).toList = rws P w M ∧ M.Perm L ∧ (order.toList.map fun i => (es.map (·.1)).getD i 0) = M.map fun p => hX P w p.2 := by
  have at_ : ∀ i : Nat, es[i]? = (L[i]?).map fun p : Addr × List Key => (hX P w p.2, Value.ref p.1) := fun i => by
    rw [← Array.getElem?_toList, hr]
    exact List.getElem?_map ..
  refine ⟨order.toList.filterMap fun i => L[i]?, ?_, ?_, ?_⟩
  · rw [Array.toList_filterMap]
    unfold rws
    rw [List.map_filterMap]
    exact congrArg (fun f => List.filterMap f order.toList) (funext at_)
  · have := hp.filterMap fun i => L[i]?
    rw [pick_all L _ (Nat.le_refl _), List.take_length] at this
    exact this
  · have hb : ∀ i ∈ order.toList, i < L.length := fun i hi => List.mem_range.mp (hp.mem_iff.mp hi)
    generalize order.toList = l at hb
    induction l with
    | nil => rfl
    | cons i l ih =>
      have hi := hb i List.mem_cons_self
      have e := List.getElem?_eq_getElem hi
      rw [List.map_cons, ih fun j hj => hb j (List.mem_cons_of_mem _ hj), List.filterMap_cons_some (f := fun i => L[i]?) e, List.map_cons]
      congr 1
      rw [Array.getD_eq_getD_getElem?, Array.getElem?_map, at_ i, e]
      rfl
theorem relay_set {o : Obj} (ho : s.heap.get? a = some o) (hex : o.ExactSet) (hd : o.data = .set es ep t) (hr : es.toList = rws P w L) (hf : t.fits es.size = true) (nd : (L.map (·.2)).Nodup) (el : ∀ p ∈ L, IsK P w s.heap p.2 p.1)
    (ld : w.params.followText "set-order" = true ∨ t.led = true) (few : L.length < 1200) {wanted m : Nat} (hw : SetTable.sizeAbove wanted = m + 1) (hm : Msk m) (hn : L.length * 5 < m * 3) {Q : Unit → Shared → Prop}
    (hQ : ∀ h' M es' ep' t', Heap.SameBut a s.heap h' → SX P w h' a M es' ep' t' → M.Perm L → Q () { s with heap := h' }) : wpAny (model P w) A (setRelay a wanted) Q E s := by
  have sz := rws_size hr
  obtain ⟨t', order, e, pm, T, tm, tl, _⟩ := relay_new t (hs := es.map (·.1)) hw hm (by rw [Array.size_map, sz]; omega)
  rw [Array.size_map, sz] at pm
  obtain ⟨M, m1, m2, m3⟩ := pick_rows hr pm
  rw [m3] at T
  have s2 := rws_size m1
  rw [m2.length_eq, ← sz] at s2
  have h2 : m ≤ 2047 := by rcases hm with z | z | z | z | z <;> omega
  rw [setRelay_eq]
  refine wpAny_bind (wpAny_setState_of ho hd hf (wp_if_neg (by rw [sizeLine_eq, hw]; omega) ?_))
  try refine wpAny_bind (wpAny_pure ?_)
  rw [e]
  refine wpAny_bind (wp_if_neg (by rw [s2]; simp) ?_)
  try refine wpAny_bind (wpAny_pure ?_)
  refine wpAny_pure (wpAny_storeSet_of ho hd ?_ (by rw [s2, sz, sizeLine_eq]; omega))
  have sb : Heap.SameBut a s.heap (s.heap.update a (Obj.putSet (order.filterMap (es[·]?)) t')) := Heap.SameBut.update ..
  exact hQ _ M _ (ep + 1) t' sb ⟨⟨_, store_at ho hd, ⟨hex.1, hex.2.1, hex.2.2⟩, rfl⟩, m1, T, (m2.map (·.2)).nodup_iff.mpr nd, fun p hp => isK_but (el p (m2.mem_iff.mp hp)) ho hd sb, by rw [tl]; exact ld, by rw [m2.length_eq, tm]; exact hn, by rw [m2.length_eq]; exact few⟩ m2
theorem grow5 : SetTable.sizeAbove (SetTable.grown 5) = 31 + 1 := by decide +kernel
theorem grow19 : SetTable.sizeAbove (SetTable.grown 19) = 127 + 1 := by decide +kernel
theorem grow77 : SetTable.sizeAbove (SetTable.grown 77) = 511 + 1 := by decide +kernel
theorem grow307 : SetTable.sizeAbove (SetTable.grown 307) = 2047 + 1 := by decide +kernel
theorem SX.add (R : SX P w s.heap a L es ep t) {x : Addr} {k : List Key} (hx : IsK P w s.heap k x) (hu : A.units < cLine) (hfew : L.length + 1 < 1200) {Q : Bool → Shared → Prop}
    (hQ : ∀ b h' M es' ep' t', Heap.SameBut a s.heap h' → SX P w h' a M es' ep' t' → (k ∈ L.map (·.2) → M = L) → (k ∉ L.map (·.2) → M.Perm ((x, k) :: L)) → Q b { s with heap := h' }) : wpAny (model P w) A (setAddHashed a (.ref x) (hX P w k)) Q E s := by
  obtain ⟨o, ho, hex, hd⟩ := R.ob
  have sz := rws_size R.rows
  have hroom := R.room
  unfold setAddHashed
  refine wpAny_holding ?_
  rw [show (100000 : Nat) = 99999 + 1 from rfl, setAddHashedIn_succ]
  refine wpAny_bind (wpAny_setState_of ho hd R.fits (wp_if_neg (by simp [byScan, Value.scannable]) ?_))
  try refine wpAny_bind (wpAny_pure ?_)
  refine wpAny_bind (R.find hx hu (fun hm => ?_) fun K hm hK hb => ?_)
  · exact wpAny_pure (hQ false s.heap L es ep t (Heap.SameBut.refl a s.heap) R (fun _ => rfl) fun z => absurd hm z)
  refine wpAny_bind (wpAny_setState_of ho hd R.fits ?_)
  dsimp only
  obtain ⟨i1, i2, i3⟩ := R.tb.ins hK hb
  generalize hj : way t.mask (hX P w k) K = j at i1 i2 i3 hK hb ⊢
  have q2 : (t.put j).2 = SetTable.below t.place j := rfl
  have q4 : (t.put j).1.mask = t.mask := rfl
  have q5 : (t.put j).1.led = t.led := rfl
  generalize t.put j = pt at i2 i3 q2 q4 q5 ⊢
  obtain ⟨t1, pp⟩ := pt
  dsimp only at i2 i3 q2 q4 q5 ⊢
  subst q2
  generalize SetTable.below t.place j = p at i1 i2 ⊢
  rw [List.length_map] at i1 i3
  have hin : (SetTable.insertAt es p (hX P w k, Value.ref x)).toList = rws P w (L.take p ++ (x, k) :: L.drop p) := by
    rw [SetTable.toList_insertAt, R.rows]
    unfold rws
    rw [List.map_append, List.map_cons, List.map_take, List.map_drop]
  have pm := put_perm L p (x, k)
  have i2 : Tb t1 ((L.take p ++ (x, k) :: L.drop p).map fun p => hX P w p.2) := by
    rw [List.map_append, List.map_cons, List.map_take, List.map_drop]
    exact i2
  have nd1 : ((L.take p ++ (x, k) :: L.drop p).map (·.2)).Nodup := (pm.map (·.2)).nodup_iff.mpr (List.nodup_cons.mpr ⟨hm, R.nd⟩)
  have hes := rws_size hin
  rw [pm.length_eq, List.length_cons] at hes
  generalize SetTable.insertAt es p (hX P w k, Value.ref x) = es1 at hin hes ⊢
  have hl1 := pm.length_eq
  rw [List.length_cons] at hl1
  generalize L.take p ++ (x, k) :: L.drop p = L1 at pm i2 nd1 hin hl1
  have fin : ∀ z : Bool, wpAny (model P w) A (do
      let t := if z then t1 else { t1 with plain := false }
      storeSet a es1 t
      if !false && t.tooFull then setRelay a (SetTable.grown (es.size + 1))
      return true) Q E s := fun z => by
    obtain ⟨t2, ht2⟩ : ∃ t2, t2 = (if z then t1 else { t1 with plain := false }) := ⟨_, rfl⟩
    have T2 : Tb t2 (L1.map fun p => hX P w p.2) ∧ t2.mask = t.mask ∧ t2.led = t.led ∧ t2.fill = L.length + 1 := by
      cases z with
      | true => rw [ht2]; exact ⟨i2, q4, q5, i3⟩
      | false => rw [ht2]; exact ⟨⟨i2.ris, i2.dm, i2.sz, i2.msk, i2.bd, i2.fnd⟩, q4, q5, i3⟩
    dsimp only
    rw [← ht2]
    obtain ⟨T2, e1, e2, e3⟩ := T2
    refine wpAny_bind (wpAny_storeSet_of ho hd ?_ (by rw [hes, sizeLine_eq]; omega))
    have sb : Heap.SameBut a s.heap (s.heap.update a (Obj.putSet es1 t2)) := Heap.SameBut.update ..
    have ho1 := store_at (es' := es1) (t' := t2) ho hd
    generalize s.heap.update a (Obj.putSet es1 t2) = h1 at sb ho1 ⊢
    have el1 : ∀ p ∈ L1, IsK P w h1 p.2 p.1 := fun p hp => by
      rcases List.mem_cons.mp (pm.mem_iff.mp hp) with rfl | hp
      · exact isK_but hx ho hd sb
      · exact isK_but (R.el p hp) ho hd sb
    have ld : w.params.followText "set-order" = true ∨ t2.led = true := by rw [e2]; exact R.led
    have ft : t2.tooFull = decide ((L.length + 1) * 5 ≥ t.mask * 3) := by
      unfold SetTable.tooFull
      rw [e3, e1]
    by_cases hf : (L.length + 1) * 5 ≥ t.mask * 3
    · have hz := T2.sz
      rw [List.length_map, hl1] at hz
      have go : ∀ m, SetTable.sizeAbove (SetTable.grown (es.size + 1)) = m + 1 → Msk m → (L.length + 1) * 5 < m * 3 → L.length + 1 ≤ t.mask → wpAny (model P w) A (setRelay a (SetTable.grown (es.size + 1))) (fun _ s' => wpAny (model P w) A (pure true) Q E s') E { s with heap := h1 } := fun m g1 g2 g3 g4 =>
        relay_set (s := { s with heap := h1 }) ho1 ⟨hex.1, hex.2.1, hex.2.2⟩ rfl hin (fits_of (by rw [hes]; exact hz) T2.dm (by rw [hes, e1]; exact g4)) nd1 el1 ld (by omega) g1 g2 (by rw [hl1]; exact g3) fun h2 M es2 ep2 t3 sb2 R2 pm2 =>
          wpAny_pure (hQ true h2 M es2 ep2 t3 (sb.trans sb2) R2 (fun y => absurd y hm) fun _ => pm2.trans pm)
      have run : wpAny (model P w) A (setRelay a (SetTable.grown (es.size + 1))) (fun _ s' => wpAny (model P w) A (pure true) Q E s') E { s with heap := h1 } := by
        rcases R.tb.msk with e | e | e | e | e
        · exact go 31 (by rw [sz, show L.length + 1 = 5 by omega, grow5]) (.inr (.inl rfl)) (by omega) (by omega)
        · exact go 127 (by rw [sz, show L.length + 1 = 19 by omega, grow19]) (.inr (.inr (.inl rfl))) (by omega) (by omega)
        · exact go 511 (by rw [sz, show L.length + 1 = 77 by omega, grow77]) (.inr (.inr (.inr (.inl rfl)))) (by omega) (by omega)
        · exact go 2047 (by rw [sz, show L.length + 1 = 307 by omega, grow307]) (.inr (.inr (.inr (.inr rfl)))) (by omega) (by omega)
        · omega
      have hc : (!false && t2.tooFull) = true := by rw [ft, decide_eq_true hf]; rfl
      first
        | exact wpAny_bind (wp_if_pos hc run)
        | exact wp_if_pos hc (wpAny_bind run)
    · have hc : ¬ (!false && t2.tooFull) = true := by rw [ft, decide_eq_false hf]; decide
      have fini : wpAny (model P w) A (pure true) Q E { s with heap := h1 } := wpAny_pure (hQ true h1 L1 es1 (ep + 1) t2 sb ⟨⟨_, ho1, ⟨hex.1, hex.2.1, hex.2.2⟩, rfl⟩, hin, T2, nd1, el1, ld, by rw [hl1, e1]; omega, by omega⟩ (fun y => absurd y hm) fun _ => pm)
      first
        | exact wp_if_neg hc fini
        | exact wpAny_bind (wp_if_neg hc (wpAny_pure fini))
  by_cases hpl : t1.plain = true
  · first
      | exact wpAny_bind (wp_if_pos hpl (byv_tup hx fin))
      | exact wp_if_pos hpl (wpAny_bind (byv_tup hx fin))
  · first
      | exact wpAny_bind (wp_if_neg hpl (wpAny_pure (fin true)))
      | exact wp_if_neg hpl (wpAny_bind (wpAny_pure (fin true)))
      | exact wp_if_neg hpl (fin true)
end
end DL
end
section
/-! set(t), t a tuple of tuples of numbers and texts -/
namespace DL
open PySem PySem.Spec L2
open PyProof.Rows hiding St
section
variable {P : Program} {w : World} {A : Around} {E : Value → Shared → Prop} {s : Shared}
theorem isK_keep {h h' : Heap} {k : List Key} {b : Addr} (x : IsK P w h k b) (hk : ∀ c o, h.get? c = some o → h'.get? c = some o) : IsK P w h' k b := by
  obtain ⟨o, its, n, ho, r⟩ := x
  exact ⟨o, its, n, hk b o ho, r⟩
abbrev newSet0 (w : World) : Obj := { cls := .type "set", dict := none, data := .set #[] 0 (.fresh 0 0 (!w.params.followText "set-order")) }
theorem SX.fresh {h : Heap} {a : Addr} (ho : h.get? a = some (newSet0 w)) : SX P w h a [] #[] 0 (.fresh 0 0 (!w.params.followText "set-order")) := by
  refine ⟨⟨_, ho, ⟨rfl, rfl, rfl⟩, rfl⟩, rfl, ⟨List.Pairwise.nil, rfl, rfl, .inl rfl, (fun x hx => nomatch hx), (fun q hq => nomatch hq)⟩, List.nodup_nil, (fun p hp => nomatch hp), ?_, by show 0 * 5 < 7 * 3; decide, by show 0 < 1200; decide⟩
  show _ ∨ (!w.params.followText "set-order") = true
  cases w.params.followText "set-order" with
  | true => exact .inl rfl
  | false => exact .inr rfl
/-- what of the first i items is in the set -/
structure Has (ks : List (Addr × List Key)) (i : Nat) (L : List (Addr × List Key)) : Prop where
  sub : ∀ p ∈ L, p ∈ ks.take i
  all : ∀ p ∈ ks.take i, p.2 ∈ L.map (·.2)
  len : L.length ≤ i
theorem Has.next {ks L M : List (Addr × List Key)} {i : Nat} {p : Addr × List Key} (g : Has ks i L) (hp : ks[i]? = some p) (h1 : p.2 ∈ L.map (·.2) → M = L) (h2 : p.2 ∉ L.map (·.2) → M.Perm (p :: L)) : Has ks (i + 1) M := by
  have et : ks.take (i + 1) = ks.take i ++ [p] := by rw [List.take_add_one, hp]; rfl
  by_cases c : p.2 ∈ L.map (·.2)
  · rw [h1 c]
    refine ⟨fun q hq => by rw [et]; exact List.mem_append_left _ (g.sub q hq), fun q hq => ?_, by have := g.len; omega⟩
    rw [et] at hq
    rcases List.mem_append.mp hq with z | z
    · exact g.all q z
    · rw [List.mem_singleton.mp z]
      exact c
  · have pm := h2 c
    refine ⟨fun q hq => ?_, fun q hq => ?_, by rw [pm.length_eq, List.length_cons]; have := g.len; omega⟩
    · rw [et]
      rcases List.mem_cons.mp (pm.mem_iff.mp hq) with z | z
      · rw [z]
        exact List.mem_append_right _ List.mem_cons_self
      · exact List.mem_append_left _ (g.sub q z)
    · rw [(pm.map (·.2)).mem_iff, List.map_cons]
      rw [et] at hq
      rcases List.mem_append.mp hq with z | z
      · exact List.mem_cons_of_mem _ (g.all q z)
      · rw [List.mem_singleton.mp z]
        exact List.mem_cons_self
theorem fill_loop {I l S : Addr} {its : Array Value} {ks : List (Addr × List Key)} (hit : its.toList = ks.map fun p => Value.ref p.1) (hh : A.in1.handled = none) (hu : A.in1.units < cLine) (hSI : S ≠ I) (h0 : Heap) (hk : ∀ p ∈ ks, IsK P w h0 p.2 p.1) (h0S : h0.get? S = none) (h0I : h0.get? I = none)
    (hl0 : h0.IsTuple l its) (few : ks.length < 1199) {R : Result → Shared → Prop} (n : Nat) : ∀ (i : Nat) (s : Shared), ks.length - i = n → i ≤ ks.length → s.heap.IsTupleIter I l i → (∀ b o, h0.get? b = some o → s.heap.get? b = some o) →
      (∃ L es ep t, SX P w s.heap S L es ep t ∧ Has ks i L) → (∀ h' tk L es ep t, SX P w h' S L es ep t → Has ks ks.length L → (∀ b o, h0.get? b = some o → h'.get? b = some o) → R (.ok (.ret .none)) { s with heap := h', toks := tk }) →
      codeAny (model P w) A (.builtin "set.update.loop" ⟨[.ref S, .ref I], []⟩) R s := by
  have isz : its.size = ks.length := by
    have := congrArg List.length hit
    rwa [Array.length_toList, List.length_map] at this
  have keepI : ∀ {h h' : Heap}, (∀ b o, b ≠ I → h.get? b = some o → h'.get? b = some o) → (∀ b o, h0.get? b = some o → h.get? b = some o) → ∀ b o, h0.get? b = some o → h'.get? b = some o := fun e kp b o z =>
    e b o (fun y => by rw [y, h0I] at z; cases z) (kp b o z)
  have still : ∀ {h h' : Heap} {L es ep t i}, SX P w h S L es ep t → Has ks i L → (∀ b o, b ≠ I → h.get? b = some o → h'.get? b = some o) → (∀ b o, h0.get? b = some o → h'.get? b = some o) → SX P w h' S L es ep t := fun R g e kp => by
    obtain ⟨o, ho, r⟩ := R.ob
    exact ⟨⟨o, e S o hSI ho, r⟩, R.rows, R.tb, R.nd, fun p hp => isK_keep (hk p (List.mem_of_mem_take (g.sub p hp))) kp, R.led, R.room, R.few⟩
  induction n with
  | zero =>
    intro i s hn hi hI kp ⟨L, es, ep, t, R0, g⟩ hR
    obtain rfl : i = ks.length := by omega
    refine codeAny_builtin F.entry_set_update_loop ?_
    rw [Around.under_plainId F.plain_set_update_loop _]
    have hT : s.heap.IsTuple l its := by
      obtain ⟨o, ho, r⟩ := hl0
      exact ⟨o, kp l o ho, r⟩
    refine wpAny_bind (wpAny_pyNext_tuple_end hh hI hT (by rw [← isz]; exact Array.getElem?_size) fun h' e => ?_)
    have kp' := keepI e kp
    exact wpAny_pure (hR h' s.toks L es ep t (still R0 g e kp') g kp')
  | succ n ih =>
    intro i s hn hi hI kp ⟨L, es, ep, t, R0, g⟩ hR
    have lt : i < ks.length := by omega
    obtain ⟨p, hp⟩ : ∃ p, ks[i]? = some p := ⟨_, List.getElem?_eq_getElem lt⟩
    have hv : its[i]? = some (Value.ref p.1) := by
      rw [← Array.getElem?_toList, hit, List.getElem?_map, hp]
      rfl
    refine codeAny_builtin F.entry_set_update_loop ?_
    rw [Around.under_plainId F.plain_set_update_loop _]
    have hT : s.heap.IsTuple l its := by
      obtain ⟨o, ho, r⟩ := hl0
      exact ⟨o, kp l o ho, r⟩
    refine wpAny_bind (wpAny_pyNext_tuple_item hI hT hv fun h1 hI1 sb1 => ?_)
    have e1 : ∀ b o, b ≠ I → s.heap.get? b = some o → h1.get? b = some o := fun b o hb z => (sb1.2 b hb).trans z
    have kp1 := keepI e1 kp
    have R1 := still R0 g e1 kp1
    have hx : IsK P w h1 p.2 p.1 := isK_keep (hk p (List.mem_of_getElem? hp)) kp1
    refine wpAny_bind (wpAny_holding ?_)
    unfold setAdd
    refine wpAny_holding (wpAny_bind (wpAny_pyHash_tuple (s := { s with heap := h1 }) hu hx ?_))
    refine SX.add (s := { s with heap := h1, toks := s.toks + (p.2.length + 1) }) R1 hx hu (by have := g.len; omega) fun b h2 M es2 ep2 t2 sb2 R2 c1 c2 => ?_
    have kp2 : ∀ b o, h0.get? b = some o → h2.get? b = some o := fun b o z => (sb2.2 b fun y => by rw [y, h0S] at z; cases z).trans (kp1 b o z)
    have hI2 : h2.IsTupleIter I l (i + 1) := by
      obtain ⟨o, ho, r⟩ := hI1
      exact ⟨o, (sb2.2 I (Ne.symm hSI)).trans ho, r⟩
    exact wpAny_pure ⟨plainId_quiet F.plain_set_update_loop _, ih (i + 1) { s with heap := h2, toks := s.toks + (p.2.length + 1) } (by omega) lt hI2 kp2 ⟨M, es2, ep2, t2, R2, g.next hp c1 c2⟩ hR⟩
/-- set(t): what its loop leaves -/
theorem call_setT {l : Addr} {its : Array Value} {Q : Value → Shared → Prop} (hl : s.heap.IsTuple l its)
    (loop : codeAny (model P w) A.in1.in1 (.builtin "set.update.loop" ⟨[.ref s.heap.objs.size, .ref (s.heap.push (newSet0 w)).objs.size], []⟩) (fun r s' => r = .ok (.ret .none) ∧ ∃ h' tk, s' = { s with heap := h', toks := tk } ∧ Q (.ref s.heap.objs.size) s')
      { s with heap := (s.heap.push (newSet0 w)).push { cls := .type "tuple_iterator", data := .fields #[.ref l, .int 0 0] } }) : wpAny (model P w) A (call (.type "set") [.ref l]) Q E s := by
  obtain ⟨c, tl, hmro⟩ := F.called_set.mro
  have hmade := F.called_set.made
  have hsub := F.called_set.sub
  refine wpAny_call (codeAny_of_tree (wpAny_pure ⟨Code.quiet_builtin _ (by decide +kernel), codeAny_builtin F.entry_type_call ?_⟩))
  rw [Around.under_plain (weight_type_call_type "set" [.ref l] []) rfl]
  have n1 := F.called_set.notType
  have n2 := F.called_set.canCreate
  have n3 := F.typeCall_set_1 (.ref l)
  repeat (any_goals (first | assumption | wp_step))
  refine codeAny_mono (code_set_led1 (.ref l) (E := E) (Q₁ := fun v s1 => v = .ref s.heap.objs.size ∧ s1 = { s with heap := s.heap.push (newSet0 w) }) ⟨rfl, rfl⟩) fun r s1 hr => ?_
  match r, hr with
  | .error e, hr => exact hr
  | .ok (.ret v), hr =>
    obtain ⟨rfl, rfl⟩ := hr
    have hS := Heap.get?_push_size s.heap (o := newSet0 w) rfl
    have hT : Shared.TypeIs { s with heap := s.heap.push (newSet0 w) } (.ref s.heap.objs.size) "set" := ⟨_, hS, rfl⟩
    have i1 := F.called_set.init.lookup
    have i2 := F.called_set.init.bind (.ref s.heap.objs.size)
    repeat (any_goals (first | assumption | wp_step))
    refine codeAny_mono (codeAny_call_builtin (R := wants (fun r s2 => r = .none ∧ (∃ h' tk, s2 = { s with heap := h', toks := tk }) ∧ Q (.ref s.heap.objs.size) s2) E) F.called_set.init.plain F.entry_set_init (check_set_init_1 hT ?_)) fun r2 s2 hr2 => ?_
    · have hl1 : (s.heap.push (newSet0 w)).IsTuple l its := by
        obtain ⟨o, ho, r⟩ := hl
        exact ⟨o, Heap.get?_push_of_some _ ho, r⟩
      obtain ⟨⟨oc, od, oe, os⟩, ho, hc, n, hd⟩ := id hl1
      dsimp only at hc hd
      subst hc
      subst hd
      have t1 := F.sub_tuple_set
      have t2 := F.sub_tuple_frozenset
      have t3 : (Value.type "tuple" == Value.type "dict") = false := by decide
      unfold Builtin.«set.__init__» noKeywords Builtin.Frozenset.updateFrom
      generalize hPI : pyIter = PI
      wp_walk
      subst hPI
      refine wpAny_pyIter_tuple hl1 (wpAny_bind (wpAny_runValue (codeAny_mono loop fun r s' z => ?_)))
      obtain ⟨rfl, h', tk, rfl, q⟩ := z
      exact wpAny_pure (wpAny_pure ⟨rfl, ⟨h', tk, rfl⟩, q⟩)
    · match r2, hr2 with
      | .error e, hr2 => exact hr2
      | .ok (.ret v), hr2 =>
        obtain ⟨rfl, ⟨h', tk, rfl⟩, q⟩ := hr2
        repeat (any_goals (first | assumption | wp_step))
end
end DL
end
section
/-! sorted(set(t)), t a tuple of pairs of texts -/
namespace DL
open PySem PySem.Spec L2
open PyProof.Rows hiding St
/-! ### pairs and their order -/
abbrev Pr := List Nat × List Nat
def pD (p : Pr) : D := .tup [.str p.1, .str p.2]
def asPr : List D → Option (List Pr)
  | [] => some []
  | .tup [.str a, .str b] :: r => (asPr r).map fun ps => (a, b) :: ps
  | _ => none
theorem asPr_map : ∀ ps : List Pr, asPr (ps.map pD) = some ps
  | [] => rfl
  | p :: ps => by
    show (asPr (ps.map pD)).map _ = _
    rw [asPr_map ps]
    rfl
theorem asPr_some : ∀ {xs : List D} {ps : List Pr}, asPr xs = some ps → xs = ps.map pD := by
  intro xs
  induction xs with
  | nil => intro ps h; cases h; rfl
  | cons x xs ih =>
    intro ps h
    unfold asPr at h
    split at h
    · rename_i e; cases e
    · rename_i e
      cases e
      obtain ⟨qs, eq, rfl⟩ := Option.map_eq_some_iff.mp h
      rw [ih eq]
      rfl
    · cases h
def ndP : List Pr → List Pr
  | [] => []
  | p :: ps => if p ∈ ps then ndP ps else p :: ndP ps
theorem mem_ndP {p : Pr} : ∀ {ps : List Pr}, p ∈ ndP ps ↔ p ∈ ps
  | [] => Iff.rfl
  | q :: ps => by
    unfold ndP
    split
    · rw [mem_ndP, List.mem_cons]
      exact ⟨.inr, fun h => h.elim (fun z => by rw [z]; assumption) id⟩
    · rw [List.mem_cons, List.mem_cons, mem_ndP]
theorem nodup_ndP : ∀ ps : List Pr, (ndP ps).Nodup
  | [] => List.nodup_nil
  | q :: ps => by
    unfold ndP
    split
    · exact nodup_ndP ps
    · exact List.nodup_cons.mpr ⟨fun z => by rename_i h; exact h (mem_ndP.mp z), nodup_ndP ps⟩
abbrev lqD : D → D → Bool := PySem.W.dataLe false toPy
theorem lqD_eq (a b : D) : lqD a b = !dlt b a := rfl
theorem sortD_pw (xs : List D) : (xs.mergeSort lqD).Pairwise fun a b => dlt b a = false := by
  have tr : ∀ a b c : D, lqD a b = true → lqD b c = true → lqD a c = true := fun a b c h1 h2 => by
    rw [lqD_eq, Bool.not_eq_true'] at *
    refine Bool.eq_false_iff.mpr fun e => ?_
    rcases PyProof.Rows.lex_negTrans _ (PySem.W.keyToks (toPy b)) _ e with z | z
    · exact Bool.false_ne_true (h2.symm.trans z)
    · exact Bool.false_ne_true (h1.symm.trans z)
  have to : ∀ a b : D, (lqD a b || lqD b a) = true := fun a b => by
    rw [lqD_eq, lqD_eq]
    cases e : dlt b a with
    | false => rfl
    | true =>
      cases e2 : dlt a b with
      | false => rfl
      | true =>
        have : dlt a a = true := PyProof.Rows.lex_trans _ _ _ e2 e
        rw [show dlt a a = false from PyProof.Rows.lex_irrefl _] at this
        cases this
  exact (List.pairwise_mergeSort tr to xs).imp fun h => by
    rw [lqD_eq, Bool.not_eq_true'] at h
    exact h
theorem pr_toks (p : Pr) : PySem.W.keyToks (toPy (pD p)) = [.inl 1, .inr p.1, .inl 1, .inr p.2, .inl 0] := by
  unfold pD
  rw [toPy, toPys, toPys, toPys, PySem.W.keyToks, PySem.W.keyToksAll, PySem.W.keyToksAll, PySem.W.keyToksAll, toPy, toPy, PySem.W.keyToks, PySem.W.keyToks]
  rfl
theorem pr_tot {p q : Pr} (h1 : dlt (pD p) (pD q) = false) (h2 : dlt (pD q) (pD p) = false) : p = q := by
  have := PyProof.Rows.lex_total _ _ h1 h2
  rw [pr_toks, pr_toks] at this
  simp only [List.cons.injEq, Sum.inr.injEq, true_and, and_true] at this
  exact Prod.ext this.1 this.2
def sortP (ps : List Pr) : List Pr := ps.mergeSort fun p q => lqD (pD p) (pD q)
theorem sortP_map (ps : List Pr) : (ps.map pD).mergeSort lqD = (sortP ps).map pD := (List.map_mergeSort (f := pD) (fun a _ b _ => rfl)).symm
theorem mem_sortP {p : Pr} {ps : List Pr} : p ∈ sortP ps ↔ p ∈ ps := List.mem_mergeSort
theorem sortP_rise {ps : List Pr} (hn : ps.Nodup) : (sortP ps).Pairwise fun p q => dlt (pD p) (pD q) = true := by
  have h := sortD_pw (ps.map pD)
  rw [sortP_map, List.pairwise_map] at h
  have hd : (sortP ps).Nodup := (List.mergeSort_perm ps _).nodup_iff.mpr hn
  refine (h.and hd).imp fun {p q} z => ?_
  cases e : dlt (pD p) (pD q) with
  | true => rfl
  | false => exact absurd (pr_tot e z.1) z.2
theorem riseP : ∀ {xs ys : List Pr}, xs.Pairwise (fun p q => dlt (pD p) (pD q) = true) → ys.Pairwise (fun p q => dlt (pD p) (pD q) = true) → (∀ a, a ∈ xs ↔ a ∈ ys) → xs = ys := by
  have irr : ∀ p : Pr, ¬ dlt (pD p) (pD p) = true := fun p z => Bool.false_ne_true ((PyProof.Rows.lex_irrefl _).symm.trans z)
  have tr : ∀ {p q r : Pr}, dlt (pD p) (pD q) = true → dlt (pD q) (pD r) = true → dlt (pD p) (pD r) = true := fun a b => PyProof.Rows.lex_trans _ _ _ a b
  intro xs
  induction xs with
  | nil =>
    intro ys _ _ h
    cases ys with
    | nil => rfl
    | cons y ys => exact absurd ((h y).mpr List.mem_cons_self) List.not_mem_nil
  | cons x xs ih =>
    intro ys h1 h2 h
    cases ys with
    | nil => exact absurd ((h x).mp List.mem_cons_self) List.not_mem_nil
    | cons y ys =>
      rw [List.pairwise_cons] at h1 h2
      have e : x = y := by
        rcases List.mem_cons.mp ((h x).mp List.mem_cons_self) with e | e
        · exact e
        rcases List.mem_cons.mp ((h y).mpr List.mem_cons_self) with e2 | e2
        · exact e2.symm
        · exact absurd (tr (h1.1 y e2) (h2.1 x e)) (irr x)
      subst e
      rw [ih h1.2 h2.2 fun a => ⟨fun ha => ?_, fun ha => ?_⟩]
      · rcases List.mem_cons.mp ((h a).mp (List.mem_cons_of_mem _ ha)) with e | e
        · exact absurd (e ▸ h1.1 a ha) (irr a)
        · exact e
      · rcases List.mem_cons.mp ((h a).mpr (List.mem_cons_of_mem _ ha)) with e | e
        · exact absurd (e ▸ h2.1 a ha) (irr a)
        · exact e
theorem sortP_same {ps qs : List Pr} (hp : ps.Nodup) (hq : qs.Nodup) (h : ∀ a, a ∈ ps ↔ a ∈ qs) : sortP ps = sortP qs := riseP (sortP_rise hp) (sortP_rise hq) fun a => by rw [mem_sortP, mem_sortP, h a]
def srtS : D → Option D
  | .tup xs => (asPr xs).bind fun ps => if (seqOk ((ndP ps).map pD) && decide (xs.length < 1199)) = true then some (.lst ((sortP (ndP ps)).map pD)) else none
  | _ => none
end DL
end
section
/-! sorted(set(t)), t a tuple of pairs of texts: the rule -/
namespace DL
open PySem PySem.Spec L2
open PyProof.Rows hiding St
/-- sorted(x), the order of what x yields not known -/
theorem sorted_any {prog : Program} {w : World} {A : Around} {E : Value → Shared → Prop} {s : Shared} {x : Value} {R : Value → D → Prop} {ok : List Value → List D → Prop} {Q : Value → Shared → Prop}
    (hcol : ∀ (Q' : List Value → Shared → Prop) (E' : Value → Shared → Prop), (∀ s1 vs bs, (∀ b o, s.heap.get? b = some o → s1.heap.get? b = some o) → s.heap.objs.size ≤ s1.heap.objs.size → s1.gens = s.gens → s1.os = s.os → ok vs bs → Q' vs s1) → wpAny (model prog w) A.in1 (collect x) Q' E' s)
    (hok : ∀ vs bs, ok vs bs → PySem.W.EachIs R vs bs ∧ PySem.W.EachIs (fun v b => ∃ as, Reads s.heap v (toPy b) as) vs bs ∧ PySem.W.AllAlike (bs.map toPy) ∧ PySem.W.Sortable (bs.map toPy) ∧ bs.length ≤ sizeLine ∧ ∀ b, b ∈ bs → A.units + 2 + (toPy b).depth < cLine)
    (h : ∀ (vs : List Value) (bs : List D) (s1 : Shared) (h' : Heap) (n : Nat) (out : List Value), ok vs bs → (∀ b o, s.heap.get? b = some o → s1.heap.get? b = some o) → s.heap.objs.size ≤ s1.heap.objs.size → s1.gens = s.gens → s1.os = s.os → (∀ b o, s1.heap.get? b = some o → h'.get? b = some o) → h'.get? s1.heap.objs.size = some (seqObj "list" (List.toArray out) n) → PySem.W.EachIs R out (bs.mergeSort lqD) → Q (.ref s1.heap.objs.size) { s1 with heap := h' }) :
    wpAny (model prog w) A (call (.builtin "sorted") [x]) Q E s := by
  refine Calls.call_function_entry kind_sorted plain_sorted entry_sorted (args_sorted1 _) ?_
  unfold Builtin.«sorted»
  refine wpAny_bind (m := checkCount "sorted" 1 1 _) (wpAny_pure (wpAny_bind (hcol _ _ fun s1 vs bs k1 z1 g1 o1 hv => ?_)))
  obtain ⟨e, er, hal, hk, hL, hu⟩ := hok vs bs hv
  have hL' : vs.length ≤ sizeLine := by rw [e.length]; exact hL
  refine wpAny_bind (wpAny_newList ?_ hL')
  have hoL : (s1.heap.push (seqObj "list" vs.toArray 0)).get? s1.heap.objs.size = some (seqObj "list" vs.toArray 0) := Heap.get?_push_size _ rfl
  have kp : ∀ b o, s.heap.get? b = some o → (PySem.W.sortingHeap (s1.heap.push (seqObj "list" vs.toArray 0)) s1.heap.objs.size vs).get? b = some o := fun b o q => by
    have hb := Heap.lt_size (k1 b o q)
    unfold PySem.W.sortingHeap
    refine Heap.get?_push_of_some _ (Heap.get?_push_of_some _ ?_)
    rw [Heap.get?_update_ne _ _ _ _ (Nat.ne_of_lt hb)]
    exact Heap.get?_push_of_some _ (k1 b o q)
  have er' : PySem.W.EachIs (fun v b => ∃ as, Reads (PySem.W.sortingHeap (s1.heap.push (seqObj "list" vs.toArray 0)) s1.heap.objs.size vs) v (toPy b) as) vs bs := er.mono fun _ _ ⟨as, r⟩ => ⟨as, PyProof.Rows.Reads.keeps kp r⟩
  have S := PySem.W.SortsAt.data (prog := prog) (w := w) (A := A.in1.in1) (s := { s1 with heap := PySem.W.sortingHeap (s1.heap.push (seqObj "list" vs.toArray 0)) s1.heap.objs.size vs }) (PySem.W.each_map (R := fun v d => ∃ as, Reads (PySem.W.sortingHeap (s1.heap.push (seqObj "list" vs.toArray 0)) s1.heap.objs.size vs) v d as) toPy er') hal hk (PySem.W.bound_map hu)
  refine wpAny_bind (wpAny_holding (wpAny_call_entry slot_list_sort ⟨_, hoL, rfl⟩ entry_list_sort (PySem.W.list_sort_vals (s := { s1 with heap := s1.heap.push (seqObj "list" vs.toArray 0) }) hoL S hL' ⟨_, rfl, ?_⟩) (args_list_sort _)))
  obtain ⟨n, hat⟩ := PyProof.Rows.sortedHeap_at (out := (PySem.W.sortVals (PySem.W.dataKind (PySem.W.sortingHeap (s1.heap.push (seqObj "list" vs.toArray 0)) s1.heap.objs.size vs) (bs.map toPy)) false vs vs).toArray) hoL
  refine wpAny_pure ⟨_, rfl, h vs bs s1 _ n _ hv k1 z1 g1 o1 (fun b o q => ?_) hat (PySem.W.sortVals_data false e er' hal)⟩
  have hb := Heap.lt_size q
  rw [PyProof.Rows.sortedHeap_old (Nat.ne_of_lt hb) (by rw [Heap.size_push]; exact Nat.lt_succ_of_lt hb)]
  exact Heap.get?_push_of_some _ q
/-! ### the set as a tracked thing -/
abbrev keyP (p : Pr) : List Key := [.inr (mkS p.1), .inr (mkS p.2)]
abbrev toK (q : Addr × Pr) : Addr × List Key := (q.1, keyP q.2)
theorem keyP_inj {p q : Pr} (h : keyP p = keyP q) : p = q := by
  injection h with h1 h2
  injection h2 with h2 _
  injection h1 with h1
  injection h2 with h2
  exact Prod.ext (mkS_inj h1) (mkS_inj h2)
/-- the set at a, but its members' own objects -/
structure S0 (P : Program) (w : World) (a : Addr) (L : List (Addr × List Key)) (h : Heap) : Prop where
  ex : ∃ es ep t, (∃ o, h.get? a = some o ∧ o.ExactSet ∧ o.data = .set es ep t) ∧ es.toList = rws P w L ∧ Tb t (L.map fun p => hX P w p.2) ∧ (w.params.followText "set-order" = true ∨ t.led = true) ∧ L.length * 5 < t.mask * 3 ∧ L.length < 1200
theorem s0_obj {P : Program} {w : World} {a : Addr} {L : List (Addr × List Key)} {H : Hp} {h : Heap} (R : S0 P w a L h) : ObjOk P w H h a (.ext (S0 P w a L)) := by
  have ⟨es, ep, t, ⟨o, ho, r⟩, q⟩ := R.ex
  refine ⟨R, ⟨o, ho⟩, fun h1 h2 z k => ?_⟩
  have ⟨es', ep', t', ⟨o', ho', r'⟩, q'⟩ := S0.ex z
  exact ⟨⟨es', ep', t', ⟨o', k o' ho', r'⟩, q'⟩⟩
theorem SX.s0 {P : Program} {w : World} {h : Heap} {a : Addr} {L : List (Addr × List Key)} {es : Array (Int × Value)} {ep : Nat} {t : SetTable} (R : SX P w h a L es ep t) : S0 P w a L h := ⟨⟨es, ep, t, R.ob, R.rows, R.tb, R.led, R.room, R.few⟩⟩
theorem map_back {α β : Type} {f : α → β} {ok : α → Prop} : ∀ {ys : List β}, (∀ y ∈ ys, ∃ x, ok x ∧ f x = y) → ∃ xs : List α, ys = xs.map f ∧ ∀ x ∈ xs, ok x
  | [], _ => ⟨[], rfl, fun _ h => nomatch h⟩
  | y :: ys, h => by
    obtain ⟨x, h1, rfl⟩ := h y List.mem_cons_self
    obtain ⟨xs, rfl, h2⟩ := map_back fun y hy => h y (List.mem_cons_of_mem _ hy)
    refine ⟨x :: xs, rfl, fun z hz => ?_⟩
    rcases List.mem_cons.mp hz with rfl | hz
    · exact h1
    · exact h2 z hz
theorem da_pr {K : Kf} {F : Hp} {v : V} {p : Pr} (h : Da K F v (pD p)) : ∃ a, v = .ref a := by
  cases h with
  | tup h1 h2 => exact ⟨_, rfl⟩
theorem das_prs {K : Kf} {F : Hp} : ∀ {ps : List Pr} {vs : List V}, Das K F vs (ps.map pD) → ∃ ks : List (Addr × Pr), vs = ks.map (fun q => V.ref q.1) ∧ ps = ks.map (·.2) ∧ ∀ q ∈ ks, Da K F (.ref q.1) (pD q.2)
  | [], _, .nil => ⟨[], rfl, rfl, fun _ h => nomatch h⟩
  | p :: ps, _, .cons h q => by
    obtain ⟨ks, rfl, rfl, hk⟩ := das_prs q
    obtain ⟨a, rfl⟩ := da_pr h
    refine ⟨(a, p) :: ks, rfl, rfl, fun z hz => ?_⟩
    rcases List.mem_cons.mp hz with rfl | hz
    · exact h
    · exact hk z hz
theorem pr_sq {K : Kf} {F : Hp} {a : Addr} {p : Pr} (h : Da K F (.ref a) (pD p)) : SqT K F a ((keyP p).map kV) := by
  cases h with
  | tup h1 h2 =>
    cases h2 with
    | cons a b =>
      cases b with
      | cons b c =>
        cases a
        cases b
        cases c
        exact h1
section
variable {X : Cx}
theorem isK_pr {pins : List (Addr × Obj)} {σ : St} {H : Hp} {s : Shared} {a : Addr} {p : Pr} (I : Inv X pins σ H s) (h : SqT X.K H a ((keyP p).map kV)) : IsK X.prog X.w s.heap (keyP p) a := by
  obtain ⟨its, r, ⟨o, ho, hc, n, hd⟩, _⟩ := I.tuple h
  refine ⟨o, its.toArray, n, ho, hc, hd, ?_⟩
  have : ∀ {k : List Key} {us : List Value}, Vals (k.map kV) us → ItemsAre (mixKind X.prog X.w) k us := fun {k} => by
    induction k with
    | nil => intro us r; cases r; exact .nil
    | cons x k ih =>
      intro us r
      cases r with
      | cons r1 r2 =>
        refine .cons ?_ (ih r2)
        rw [mixKind_is]
        cases x with
        | inl i => obtain ⟨t, rfl⟩ := r1; exact decide_eq_true rfl
        | inr y => obtain ⟨t, rfl⟩ := r1; exact decide_eq_true rfl
  exact this r
def rSetP (K : PySem.W.Frag) (P : Program) (w : World) : List V → Hp → VK → Prop := fun xs H Q => ∃ (l : Addr) (ks : List (Addr × Pr)), xs = [.ref l] ∧ SqT K H l (ks.map fun q => V.ref q.1) ∧ (∀ q ∈ ks, SqT K H q.1 ((keyP q.2).map kV)) ∧ ks.length < 1199 ∧
  ∀ a (L : List (Addr × Pr)), H a = none → (∀ q ∈ L, q ∈ ks) → (∀ q ∈ ks, q.2 ∈ L.map (·.2)) → (L.map (·.2)).Nodup → Q (.ref a) (upd H a (.ext (S0 P w a (L.map toK))))
theorem cr_setP (hc : X.calm = true) (hu : X.A.units + 65 < cLine) : CallR X (.type "set") (rSetP X.K X.prog X.w) := by
  intro pins s σ H xs us Q I r h
  obtain ⟨l, ks, rfl, hl, hk, few, q⟩ := h
  rw [Vals.ref1 r]
  obtain ⟨its, rv, pl, hz⟩ := I.tuple hl
  have eits : its = (ks.map toK).map fun p => Value.ref p.1 := by
    have : ∀ {ks : List (Addr × Pr)} {us : List Value}, Vals (ks.map fun q => V.ref q.1) us → us = (ks.map toK).map fun p => Value.ref p.1 := fun {ks} => by
      induction ks with
      | nil => intro us r; cases r; rfl
      | cons x ks ih =>
        intro us r
        cases r with
        | cons r1 r2 =>
          cases r1
          rw [ih r2]
          rfl
    exact this rv
  have hn : H s.heap.objs.size = none := I.hok.fresh (Nat.le_refl _)
  have nn : ∀ b, s.heap.objs.size ≤ b → s.heap.get? b = none := fun b hb => by
    cases z : s.heap.get? b with
    | none => rfl
    | some o => exact absurd (Heap.lt_size z) (Nat.not_lt.mpr hb)
  have hl0 : s.heap.IsTuple l its.toArray := pl
  have hlt : l < s.heap.objs.size := pl.lt
  have hS : (s.heap.push (newSet0 X.w)).get? s.heap.objs.size = some (newSet0 X.w) := Heap.get?_push_size _ rfl
  have es1 : (s.heap.push (newSet0 X.w)).objs.size = s.heap.objs.size + 1 := Heap.size_push ..
  refine call_setT (P := X.prog) (w := X.w) hl0 (fill_loop (ks := ks.map toK) (l := l) (its := its.toArray) eits (by simp [I.ok.hd hc]) (by show X.A.units + 3 < cLine; omega) (by rw [es1]; exact Nat.ne_of_lt (Nat.lt_succ_self _)) s.heap (fun p hp => ?_) (nn _ (Nat.le_refl _)) (nn _ (by rw [es1]; exact Nat.le_succ _)) hl0 (by rw [List.length_map]; exact few) (ks.map toK).length 0 _ rfl (Nat.zero_le _) ⟨_, Heap.get?_push_size _ rfl, rfl, rfl⟩
    (fun b o e => Heap.get?_push_of_some _ (Heap.get?_push_of_some _ e)) ⟨[], #[], 0, _, SX.fresh (Heap.get?_push_of_some _ hS), fun p hp => (nomatch hp), fun p hp => by simp at hp, Nat.le_refl _⟩ fun h' tk L es ep t R g kp => ⟨rfl, h', tk, rfl, ?_⟩)
  · obtain ⟨x, hx, rfl⟩ := List.mem_map.mp hp
    exact isK_pr I (hk x hx)
  · obtain ⟨M, rfl, hM⟩ := map_back (f := toK) (ok := fun x => x ∈ ks) (ys := L) fun p hp => by
      obtain ⟨x, hx, e⟩ := List.mem_map.mp (List.mem_of_mem_take (g.sub p hp))
      exact ⟨x, hx, e⟩
    refine ⟨.ref s.heap.objs.size, upd H s.heap.objs.size (.ext (S0 X.prog X.w s.heap.objs.size (M.map toK))), I.laid (t' := tk) kp (Nat.le_refl _) (s0_obj R.s0), rfl, q _ M hn hM (fun x hx => ?_) ?_⟩
    · have := g.all (toK x) (by rw [List.take_length]; exact List.mem_map.mpr ⟨x, hx, rfl⟩)
      rw [List.map_map] at this
      obtain ⟨y, hy, e⟩ := List.mem_map.mp this
      exact List.mem_map.mpr ⟨y, hy, keyP_inj e⟩
    · have := R.nd
      rw [List.map_map] at this
      exact nodup_of_map (f := keyP) (by rw [List.map_map]; exact this)
theorem perm_back {α β : Type} {f : α → β} : ∀ {L : List α} {ys : List β}, ys.Perm (L.map f) → ∃ M : List α, M.Perm L ∧ ys = M.map f
  | [], ys, h => by
    rw [List.map_nil, List.perm_nil] at h
    exact ⟨[], .nil, h⟩
  | x :: L, ys, h => by
    obtain ⟨u, v, rfl⟩ := List.append_of_mem (h.mem_iff.mpr List.mem_cons_self : f x ∈ ys)
    obtain ⟨M, m1, m2⟩ := perm_back (List.Perm.cons_inv (List.perm_middle.symm.trans h))
    obtain ⟨M1, M2, rfl, rfl, rfl⟩ := List.map_eq_append_iff.mp m2.symm
    exact ⟨M1 ++ x :: M2, List.perm_middle.trans (m1.cons x), by rw [List.map_append, List.map_cons]⟩
theorem lay_all : ∀ {ds : List D}, (∀ d ∈ ds, (toPy d).canLay0 = true) → PyData.canLayAll0 (toPys ds) = true
  | [], _ => rfl
  | d :: ds, h => by
    rw [toPys]
    simp only [PyData.canLayAll0, Bool.and_eq_true]
    exact ⟨h d List.mem_cons_self, lay_all fun e he => h e (List.mem_cons_of_mem _ he)⟩
def rSrtP (K : Kf) : List V → Hp → VK → Prop := fun xs H Q => ∃ (a : Addr) (L : List (Addr × Pr)) (F : Hp) (ps : List Pr), xs = [.ref a] ∧ H a = some (.ext (S0 K.P K.w a (L.map toK))) ∧ Same F H ∧ (∀ q ∈ L, Da K F (.ref q.1) (pD q.2)) ∧ (L.map (·.2)).Nodup ∧ (∀ q ∈ L, q.2 ∈ ps) ∧ (∀ p ∈ ps, p ∈ L.map (·.2)) ∧
  seqOk ((ndP ps).map pD) = true ∧ ∀ p ws, H p = none → Das K F ws ((sortP (ndP ps)).map pD) → Q (.ref p) (upd H p (.lst ws))
theorem cr_srtP (hc : X.calm = true) (hu : X.A.units + 65 < cLine) : CallR X (.builtin "sorted") (rSrtP X.kf) := by
  intro pins s σ H xs us Q I r h
  obtain ⟨a, L, F, ps, rfl, ha, sf, hd, nd, h1, h2, sq, q⟩ := h
  have R0 : S0 X.prog X.w a (L.map toK) s.heap := (I.hok a _ ha).1
  obtain ⟨es, ep, t, ⟨o, ho, hex, hdt⟩, rows, tb, led, room, few⟩ := R0.ex
  have R : SX X.prog X.w s.heap a (L.map toK) es ep t := ⟨⟨o, ho, hex, hdt⟩, rows, tb, by
    rw [List.map_map]
    have : (L.map fun q => keyP q.2) = (L.map (·.2)).map keyP := by rw [List.map_map]; rfl
    show (L.map fun q => keyP q.2).Nodup
    rw [this]
    exact List.Pairwise.map keyP (fun a b h z => h (keyP_inj z)) nd, fun p hp => by
    obtain ⟨x, hx, rfl⟩ := List.mem_map.mp hp
    exact isK_pr I (sqT_same sf (pr_sq (hd x hx))), led, room, few⟩
  rw [List.length_map] at few
  have tne : ((ndP ps).map pD).all isTNE = true := List.all_eq_true.mpr fun d hd => by
    obtain ⟨x, _, rfl⟩ := List.mem_map.mp hd
    rfl
  obtain ⟨al, so, dp⟩ := seqOk_sort sq tne
  have lay := seqOk_lay sq
  have inD : ∀ {M : List (Addr × Pr)}, M.Perm L → ∀ d ∈ M.map (fun q => pD q.2), d ∈ (ndP ps).map pD := fun {M} pm d hd => by
    obtain ⟨x, hx, rfl⟩ := List.mem_map.mp hd
    exact List.mem_map.mpr ⟨x.2, mem_ndP.mpr (h1 x (pm.mem_iff.mp hx)), rfl⟩
  rw [Vals.ref1 r]
  refine sorted_any (x := .ref a) (R := fun v d => ∃ z, RelV z v ∧ Da X.kf F z d) (ok := fun vs bs => ∃ M : List (Addr × Pr), M.Perm L ∧ vs = M.map (fun q => Value.ref q.1) ∧ bs = M.map fun q => pD q.2) (fun Q' E' hq => ?_) (fun vs bs hv => ?_) fun vs bs s1 h' n out hv k1 hz g1 o1 k2 hat he => ?_
  · refine collect_set (A := X.A.in1) (P := X.prog) (w := X.w) (I.ok.hd hc) ⟨o, ho, hex.1, hdt⟩ R.fits (by rw [rws_size rows, List.length_map]; unfold scanBound; omega) tb.ris led fun s1 out k z g e pm => ?_
    have : es.toList.map (·.2) = L.map fun q => Value.ref q.1 := by
      rw [rows]
      unfold rws
      rw [List.map_map, List.map_map]
      rfl
    rw [this] at pm
    obtain ⟨M, m1, m2⟩ := perm_back pm
    exact hq s1 out _ k z g e ⟨M, m1, m2, rfl⟩
  · obtain ⟨M, pm, rfl, rfl⟩ := hv
    have das : Das X.kf F (M.map fun q => V.ref q.1) (M.map fun q => pD q.2) := by
      have hm : ∀ q ∈ M, Da X.kf F (.ref q.1) (pD q.2) := fun q hq => hd q (pm.mem_iff.mp hq)
      clear pm
      induction M with
      | nil => exact .nil
      | cons x M ih => exact .cons (hm x List.mem_cons_self) (ih fun q hq => hm q (List.mem_cons_of_mem _ hq))
    have vals : Vals (M.map fun q => V.ref q.1) (M.map fun q => Value.ref q.1) := by
      clear das pm
      induction M with
      | nil => exact .nil
      | cons x M ih => exact .cons rfl ih
    have ly : PyData.canLayAll0 (toPys (M.map fun q => pD q.2)) = true := lay_all fun d hd => PyData.canLay0_of_mem _ _ lay (by rw [toPys_map]; exact List.mem_map.mpr ⟨d, inD pm d hd, rfl⟩)
    obtain ⟨as, hr⟩ := Dp.readsAll I _ _ _ (das.dp sf ly) vals
    rw [toPys_map] at hr
    refine ⟨each_of das vals, PySem.W.readsAll_each toPy hr, fun d1 g1 d2 g2 => ?_, ?_, by rw [List.length_map, pm.length_eq, sizeLine_eq]; omega, fun b hb => ?_⟩
    · obtain ⟨e1, f1, rfl⟩ := List.mem_map.mp g1
      obtain ⟨e2, f2, rfl⟩ := List.mem_map.mp g2
      exact al _ (List.mem_map.mpr ⟨e1, inD pm e1 f1, rfl⟩) _ (List.mem_map.mpr ⟨e2, inD pm e2 f2, rfl⟩)
    · refine .inl fun d1 g1 => ?_
      obtain ⟨e1, f1, rfl⟩ := List.mem_map.mp g1
      obtain ⟨x, _, rfl⟩ := List.mem_map.mp f1
      unfold pD
      rw [toPy, toPys]
      exact ⟨_, _, rfl⟩
    · have := dp b (inD pm b hb)
      omega
  · obtain ⟨M, pm, rfl, rfl⟩ := hv
    obtain ⟨ws, rw', dw⟩ := of_each he
    have es2 : (M.map fun q => pD q.2).mergeSort lqD = (sortP (ndP ps)).map pD := by
      rw [show (M.map fun q => pD q.2) = (M.map (·.2)).map pD by rw [List.map_map]; rfl, sortP_map]
      congr 1
      refine sortP_same ((pm.map (·.2)).nodup_iff.mpr nd) (nodup_ndP ps) fun p => ?_
      rw [mem_ndP, (pm.map (·.2)).mem_iff]
      constructor
      · intro hp
        obtain ⟨x, hx, rfl⟩ := List.mem_map.mp hp
        exact h1 x hx
      · exact h2 p
    have hlw : ws.length ≤ sizeLine := by rw [dw.length, List.length_mergeSort, List.length_map, pm.length_eq, sizeLine_eq]; omega
    rw [es2] at dw
    have kk : ∀ b o, s.heap.get? b = some o → h'.get? b = some o := fun b o z => k2 b o (k1 b o z)
    have hn : H s1.heap.objs.size = none := I.hok.fresh hz
    have J : Inv X pins σ (upd H s1.heap.objs.size (.lst ws)) { s with heap := h', gens := s1.gens, drawn := s1.drawn, toks := s1.toks } :=
      I.call (ch := []) (Un.laid kk hz hn) (I.hok.laid kk hz ⟨hlw, out, n, rw', hat⟩) (by rw [g1]; exact I.bare) (fun _ z => nomatch z)
    have e : ({ s1 with heap := h' } : Shared) = { s with heap := h', gens := s1.gens, drawn := s1.drawn, toks := s1.toks } := by
      rw [← o1]
    rw [e]
    exact ⟨.ref s1.heap.objs.size, _, J, rfl, q _ ws hn dw⟩
end
end DL
end
section
/-! sorted(set(t)) as a value; while with a test -/
namespace DL
open PySem PySem.Spec L2
open PyProof.Rows hiding St
section
variable {X : Cx} {a : Expr} {fa : En → Option D} {p p2 pos pos2 : Pos}
theorem pd_srtS (hc : X.calm = true) (hu : X.A.units + 65 < cLine) (hg : Gl X "sorted") (hm : X.mg "sorted" = none) (hg2 : Gl X "set") (hm2 : X.mg "set" = none) (ha : PE X a (tD X.kf fa)) (hst : starEach [a] X.env = [(false, eval a X.env)]) :
    PE X (.Call (.Name "sorted" p) [.Call (.Name "set" p2) [a] [] pos2] [] pos) (tD X.kf (bind1 srtS fa)) := by
  refine PEi (pe_callB (cr_srtP hc hu) hg hm (by decide +kernel) (pa_cons (pe_callTy (cr_setP hc hu) hg2 hm2 (by decide +kernel) (pa_cons ha pa_nil hst) (by decide) (by decide) hst rfl) pa_nil rfl) (by decide) (by decide) rfl rfl) fun σ H Q h => ?_
  obtain ⟨P, F, ρ, d, vw, e, k⟩ := h
  obtain ⟨x, ex, e⟩ := bind_some_iff e
  obtain ⟨xs, rfl⟩ : ∃ xs, x = .tup xs := by
    cases x with
    | tup xs => exact ⟨xs, rfl⟩
    | _ => cases e
  obtain ⟨ps, ep, e⟩ := bind_some_iff (show (asPr xs).bind _ = some d from e)
  obtain rfl := asPr_some ep
  split at e
  · rename_i hok
    rw [Bool.and_eq_true, decide_eq_true_eq, List.length_map] at hok
    cases e
    refine ⟨P, F, ρ, _, vw, ex, fun v F1 H1 g1 q1 => ?_⟩
    cases q1 with
    | @tup l vs ds h1 d1 =>
      obtain ⟨ks, rfl, rfl, hk⟩ := das_prs d1
      refine ⟨l, ks, rfl, sqT_same g1.fh h1, fun q hq => sqT_same g1.fh (pr_sq (hk q hq)), by have := hok.2; rw [List.length_map] at this; exact this, fun b L hb hL hall nd => ?_⟩
      have g2 := Gr.side (o := .ext (S0 X.prog X.w b (L.map toK))) g1.fh hb
      refine ⟨b, L, F1, ks.map (·.2), rfl, upd_same, g2.fh, fun q hq => hk q (hL q hq), nd, fun q hq => List.mem_map.mpr ⟨q, hL q hq, rfl⟩, fun z hz => ?_, hok.1, fun c ws hc' dw => ?_⟩
      · obtain ⟨q, hq, rfl⟩ := List.mem_map.mp hz
        exact hall q hq
      · have g3 := Gr.laid (o := .lst ws) g2.fh hc'
        exact k _ _ _ ((g1.trans g2).trans g3) (.lst upd_same (dw.same g3.ff))
  · cases e
/-- while test: body -/
def gwhE (f : En → Option Bool) (gb : En → Option Res) : Nat → En → Option Res
  | 0, _ => none
  | n + 1, ρ => (f ρ).bind fun b => if b then (gb ρ).bind fun r => match r with
      | .nx ρ' => gwhE f gb n ρ'
      | .rt d => some (.rt d)
    else some (.nx ρ)
theorem psd_whE {c : Expr} {f : En → Option Bool} {body : List Stmt} {gb : En → Option Res} {fuel : Nat} (hp : PassesOwn (model X.prog X.w) X.A X.env X.xe) (hc : PT X c (tDT X.kf f)) (hb : PSs X body (sD X.kf gb)) :
    PS X (.While c body [] pos) (sD X.kf (gwhE f gb fuel)) := PSi (ps_while hp hc hb) fun E σ H h => by
  obtain ⟨W, F, ρ, r, sg, e, k⟩ := h
  refine ⟨fun m σ H => ∃ F' ρ', Sg X.kf W F' H σ ρ' ∧ gwhE f gb m ρ' = some r, ⟨fuel, F, ρ, sg, e⟩, fun m σ2 H2 hW => ?_⟩
  obtain ⟨F2, ρ2, sg2, e2⟩ := hW
  cases m with
  | zero => cases e2
  | succ m =>
    obtain ⟨b, eb, e2⟩ := bind_some_iff (show (f ρ2).bind _ = some r from e2)
    refine ⟨_, F2, ρ2, b, sg2.vw, eb, fun F3 H3 g3 => ?_⟩
    cases b with
    | false =>
      cases e2
      exact iteF (k σ2 F3 H3 (sg2.grow g3))
    | true =>
      obtain ⟨r4, e6, e2⟩ := bind_some_iff (show (gb ρ2).bind _ = some r from e2)
      refine iteT ⟨fun σ' H' => ∃ F' ρ', Sg X.kf W F' H' σ' ρ' ∧ gwhE f gb m ρ' = some r, fun σ' H' hN => ⟨m, Nat.lt_succ_self _, hN⟩, W, F3, ρ2, r4, sg2.grow g3, e6, ?_⟩
      cases r4 with
      | nx ρ4 => exact fun σ4 F4 H4 sg4 => ⟨F4, ρ4, sg4, e2⟩
      | rt d =>
        cases e2
        exact fun v F4 H4 o => k v F4 H4 o
end
end DL
end
section
namespace DL
open PySem PySem.Spec L2
open PyProof.Rows hiding St

/-! ### what is known without running -/
structure PIn where
  bn : List Str
  gds : List (Str × D)
  gdd : List (Str × List (List Nat × List Nat)) := []
  fns : List (Str × Nat)
  tab : Bool := false
  tol : Bool := false
  liv : Bool := false
  nf : Bool := false
  jm : Nat := 0
  jn : Nat := 0
  js : Nat := 0
structure SC where
  N : List Str
  names : List (Str × NameKind)
  own : Option (List (Str × NameKind))
def SC.gl (c : SC) (x : Str) : Bool := decide (c.names.lookup x = some .globalImplicit) && !(x == ("__debug__" : Str)) && !decide (x = "__name__")
def SC.vis (c : SC) (x : Str) : Bool := (match c.names.lookup x with | some .local => true | some .cell => true | some .free => true | _ => false) && !(x == ("__debug__" : Str)) && !(x == ("__classdict__" : Str))
def SC.loc (c : SC) (x : Str) : Bool := match c.names.lookup x with | some .local => true | some .cell => true | _ => false
def SC.fnb (c : SC) (x : Str) : Bool := match c.own with | none => true | some ns => ns.lookup x == some .cell
def SC.sto (c : SC) (x : Str) : Bool := c.loc x && (c.fnb x || decide (c.names.lookup x = some .local))
def SC.blk (c : SC) (scope : Scope) : SC := { c with names := scope.names.map fun (n, k) => if (k == .free && c.names.lookup n == some .cell) then (n, .cell) else (n, k), own := some scope.names }
structure Cok (S : PIn) (G : Nat → List D → Option D) (k : Nat) (X : Cx) (c : SC) : Prop where
  kind : X.env.scope.kind = .function
  names : X.env.scope.names = c.names
  N : X.N = c.N
  nd : c.N.Nodup
  calm : X.calm = true
  fn : ∀ x, c.fnb x = true → X.fn x = true
  room : Room k X.A
  bn : ∀ x ∈ S.bn, X.mg x = none
  gds : ∀ (j : Nat) x d, S.gds[j]? = some (x, d) → ∃ v u, X.mg x = some u ∧ RelV v u ∧ ∀ F, Da X.kf F v d
  gdd : ∀ (j : Nat) x ps, S.gdd[j]? = some (x, ps) → ∃ p, X.mg x = some (.ref p) ∧ KTx X.kf p ps
  fns : ∀ (j : Nat) x n, S.fns[j]? = some (x, n) → ∃ f fd ps, FnOk X.prog X.w X.kf X.mg X.base CX0 k f fd ps (spD X.kf n (G j)) ∧ X.mg x = some (.ref f) ∧ PySem.W.keepIn X.kf (.ref f) = true ∧ Binds X.kf fd ps []
  tab : S.tab = true → ∃ C, TabOk X.prog X.w X.K X.mg X.base k (G 1000) (G 1001) (G 1002) S.nf C ∧ (S.tol = true → ToldOk X.prog X.w X.K X.mg X.base k (G 1004) (G 1003) C) ∧ (S.liv = true → LivOk X.prog X.w X.K X.mg X.base k (G 1005) C)
section
variable {S : PIn} {G : Nat → List D → Option D} {k : Nat} {X : Cx} {c : SC}
theorem Cok.gl (h : Cok S G k X c) {x : Str} (e : c.gl x = true) : Gl X x ∧ (x == ("__debug__" : Str)) = false ∧ x ≠ "__name__" := by
  unfold SC.gl at e
  simp only [Bool.and_eq_true, decide_eq_true_eq, Bool.not_eq_true', decide_eq_false_iff_not] at e
  exact ⟨by show X.env.scope.names.lookup x = _; rw [h.names]; exact e.1.1, e.1.2, e.2⟩
theorem Cok.vis (h : Cok S G k X c) {x : Str} (e : c.vis x = true) : Vis X.env.scope x ∧ (x == ("__debug__" : Str)) = false ∧ (x == ("__classdict__" : Str)) = false := by
  unfold SC.vis at e
  simp only [Bool.and_eq_true, Bool.not_eq_true'] at e
  refine ⟨?_, e.1.2, e.2⟩
  have e1 := e.1.1
  unfold Vis
  rw [h.names]
  split at e1
  · exact .inl (by assumption)
  · exact .inr (.inl (by assumption))
  · exact .inr (.inr (by assumption))
  · cases e1
theorem Cok.sto (h : Cok S G k X c) {x : Str} (e : c.sto x = true) : L2.Loc X.env.scope x ∧ (X.fn x = true ∨ X.env.scope.names.lookup x = some .local) := by
  unfold SC.sto at e
  simp only [Bool.and_eq_true, Bool.or_eq_true, decide_eq_true_eq] at e
  refine ⟨?_, ?_⟩
  · have e1 := e.1
    unfold SC.loc at e1
    unfold L2.Loc
    rw [h.names]
    split at e1
    · exact .inl (by assumption)
    · exact .inr (by assumption)
    · cases e1
  · rw [h.names]
    rcases e.2 with z | z
    · exact .inl (h.fn x z)
    · exact .inr z
theorem Cok.units (h : Cok S G k X c) : X.A.units + 65 < cLine := by
  have := h.room.un
  omega
theorem Cok.nd' (h : Cok S G k X c) : X.N.Nodup := by rw [h.N]; exact h.nd
theorem Cok.blk (h : Cok S G k X c) {scope : Scope} (hk : scope.kind = .function) (s : Shared) (H : Hp) (C : Addr) (cl : List (Str × Addr)) (fp : List Addr) : Cok S G k (X.blk s H scope (compEnvC scope cl C X.env) fp) (c.blk scope) where
  kind := hk
  names := by
    show (relabel scope X.env).names = (c.blk scope).names
    unfold relabel SC.blk
    have e1 : (X.env.scope.kind == ScopeKind.function) = true := by rw [h.kind]; rfl
    have e2 : ∀ n, X.env.kindOf n = c.names.lookup n := fun n => by show X.env.scope.names.lookup n = _; rw [h.names]
    simp only [e1, e2, Bool.and_true]
  N := h.N
  nd := h.nd
  calm := h.calm
  fn := fun x e => e
  room := h.room
  bn := h.bn
  gds := h.gds
  gdd := h.gdd
  fns := h.fns
  tab := h.tab
end

/-! ### the small language -/
inductive B2 where | add | sub | mul | mod | fdiv
inductive C2 where | eq | ne | lt | le | gt | ge | is | isn | in_ | nin
inductive Bf where | len | tuple | list | all | any | sum | abs | min | max | sorted
inductive Ty where | tuple | str | int | bool | list
def Ty.nm : Ty → String | .tuple => "tuple" | .str => "str" | .int => "int" | .bool => "bool" | .list => "list"
def Ty.name (t : Ty) : Str := Str.ofString t.nm
theorem Ty.boot : ∀ t : Ty, bootBuiltins t.name = some (.type t.nm) := fun t => by cases t <;> decide +kernel
inductive M1 where | starts | ends | count | join | split
mutual
inductive ME where
  | var (i : Nat)
  | non | bl (b : Bool) | int (i : Int) | str (l : List Nat)
  | glo (j : Nat)
  | bin (op : B2) (a b : ME)
  | cmp (op : C2) (a b : ME)
  | chain (op op' : C2) (a b c : ME)
  | not (a : ME)
  | neg (n : Int)
  | and (es : MEs) | or (es : MEs)
  | ite (c a b : ME)
  | tup (es : MEs) | lst (es : MEs)
  | cat (a b : ME)
  | idx (a b : ME)
  | slc (a : ME) (lo hi : MO)
  | call (j : Nat) (es : MEs)
  | blt (f : Bf) (es : MEs)
  | m1 (f : M1) (a b : ME)
  | m0 (f : M0) (a : ME)
  | rev (a : ME)
  | mnin (i : Nat) (a : ME)
  | mget (i : Nat) (a b : ME)
  | mat (i : Nat) (a : ME)
  | isi (T : Ty) (a : ME)
  | isi2 (T U : Ty) (a : ME)
  | comp (elt : ME) (t : Tg) (it : MI) (c : MO)
  | bor (is : List Nat) (e : ME)
  | itm (i : Nat) (e : ME)
  | dic (ps : MPs)
  | dix (a b : ME)
  | gdx (j : Nat) (b : ME)
  | dgt (a b c : ME)
  | sortM (i : Nat)
  | stp (a lo : ME) (st : Int)
  | negE (a : ME)
  | tdl (i : Nat) | tld (i : Nat) | tlt (i : Nat)
  | rowT (i : Nat) | ovrT (i : Nat) | comT (i : Nat)
  | finT (i : Nat) (a : ME)
  | newC (a : ME)
  | newF (a b : ME)
  | rpl (y z : Nat) (a : ME)
  | fgt (a : ME)
  | addB (a b : ME)
  | cntB (a b : ME)
  | srtS (a : ME)
inductive MPs where
  | nil
  | cons (k v : ME) (r : MPs)
inductive MEs where
  | nil
  | cons (e : ME) (es : MEs)
inductive MO where
  | none
  | some (e : ME)
inductive MI where
  | dat (e : ME)
  | rng1 (a : ME)
  | rng2 (a b : ME)
  | zip (a b : ME)
  | enumL (a : ME)
  | keys (i : Nat)
end
def B2.op : B2 → Operator | .add => .Add | .sub => .Sub | .mul => .Mult | .mod => .Mod | .fdiv => .FloorDiv
def B2.run : B2 → D → D → Option D | .add => addD | .sub => subD | .mul => mulD | .mod => modD | .fdiv => fdivD
theorem B2.ok {X : Cx} : ∀ b : B2, OpR X (binaryOp b.op) (r2D X.kf b.run)
  | .add => od_add | .sub => od_sub | .mul => od_mul | .mod => od_mod | .fdiv => od_fdiv
def C2.op : C2 → CmpOp | .eq => .Eq | .ne => .NotEq | .lt => .Lt | .le => .LtE | .gt => .Gt | .ge => .GtE | .is => .Is | .isn => .IsNot | .in_ => .In | .nin => .NotIn
def C2.run : C2 → D → D → Option D | .eq => eqD | .ne => neD | .lt => ltY | .le => leY | .gt => gtY | .ge => geY | .is => isD | .isn => isnD | .in_ => inD | .nin => ninD
theorem C2.ok {X : Cx} (hu : X.A.units + 65 < cLine) : ∀ b : C2, OpR X (compareOp b.op) (r2D X.kf b.run)
  | .eq => od_eq hu | .ne => od_ne hu | .lt => od_ltY hu | .le => od_leY hu | .gt => od_gtY hu | .ge => od_geY hu | .is => od_is | .isn => od_isn | .in_ => od_in hu | .nin => od_nin hu
theorem C2.isB : ∀ b : C2, DL.isB b.run := fun b x y d h => by
  cases b <;> simp only [C2.run, eqD, neD, ltY, leY, gtY, geY, ltX, leX, gtX, geX, isD, isnD, inD, ninD] at h <;> (repeat' split at h) <;> first | (cases h; exact ⟨_, rfl⟩) | cases h
def Bf.name : Bf → Str | .len => "len" | .tuple => "tuple" | .list => "list" | .all => "all" | .any => "any" | .sum => "sum" | .abs => "abs" | .min => "min" | .max => "max" | .sorted => "sorted"
def Bf.run : Bf → List D → Option D | .len => lenD | .tuple => tupD | .list => listD | .all => allD | .any => anyD | .sum => sumD | .abs => absD | .min => minY | .max => maxY | .sorted => sortY
theorem pd_bf {X : Cx} {e : Expr} {es : List Expr} {p pos : Pos} {fs : En → Option (List D)} (hc : X.calm = true) (hu : X.A.units + 65 < cLine) (f : Bf) (hg : Gl X f.name) (hm : X.mg f.name = none) (ha : PA X (e :: es) (tDA X.kf fs)) (hn : f.name ≠ "__name__") (hdb : (f.name == ("__debug__" : Str)) = false)
    (he : starEach (e :: es) X.env = (false, eval e X.env) :: starEach es X.env) (hpl : (backTo pos (starEach es X.env)).any (·.1) = false) : PE X (.Call (.Name f.name p) (e :: es) [] pos) (tD X.kf (bindS f.run fs)) := by
  cases f with
  | len => exact pd_blt cd_len hg hm (by decide +kernel) ha hn hdb he hpl
  | tuple => exact pd_bty cd_tuple hg hm (by decide +kernel) ha hn hdb he hpl
  | list => exact pd_bty cd_list hg hm (by decide +kernel) ha hn hdb he hpl
  | all => exact pd_blt (cd_all hc) hg hm (by decide +kernel) ha hn hdb he hpl
  | any => exact pd_blt (cd_any hc) hg hm (by decide +kernel) ha hn hdb he hpl
  | sum => exact pd_blt (cd_sum hc) hg hm (by decide +kernel) ha hn hdb he hpl
  | abs => exact pd_blt cd_abs hg hm (by decide +kernel) ha hn hdb he hpl
  | min => exact pd_blt (cd_minY hc hu) hg hm (by decide +kernel) ha hn hdb he hpl
  | max => exact pd_blt (cd_maxY hc hu) hg hm (by decide +kernel) ha hn hdb he hpl
  | sorted => exact pd_blt (cd_sortY hu) hg hm (by decide +kernel) ha hn hdb he hpl
def M1.name : M1 → Str | .starts => "startswith" | .ends => "endswith" | .count => "count" | .join => "join" | .split => "split"
def M1.run : M1 → D → D → Option D | .starts => startsD | .ends => endsD | .count => countD | .join => joinD | .split => splitD
theorem pd_me {X : Cx} {a b : Expr} {pos apos : Pos} {fa fb : En → Option D} (f : M1) (ho : PE X a (tD X.kf fa)) (he : PE X b (tD X.kf fb))
    (hs : starEach [b] X.env = [(false, eval b X.env)]) (hbase : attributeBase a f.name X.env (eval a X.env) = eval a X.env) (hline : (apos.endLine == pos.line) = true) :
    PE X (.Call (.Attribute a f.name apos) [b] [] pos) (tD X.kf (meth1 f.run fa fb)) := by
  cases f with
  | starts => exact pd_m1 PySem.F.slot_str_startswith PySem.F.type_str_startswith md_starts ho he hs hbase hline
  | ends => exact pd_m1 PySem.F.slot_str_endswith PySem.F.type_str_endswith md_ends ho he hs hbase hline
  | count => exact pd_m1 PySem.F.slot_str_count PySem.F.type_str_count md_count ho he hs hbase hline
  | join => exact pd_m1 PySem.F.slot_str_join PySem.F.type_str_join md_join ho he hs hbase hline
  | split => exact pd_m1 PySem.F.slot_str_split PySem.F.type_str_split md_split ho he hs hbase hline

/-! ### what it is worth -/
/-- an item of an own list -/
def gitm (i : Nat) (f : En → Option D) : En → Option D := fun ρ => (f ρ).bind fun d => match ρ[i]? with
  | some (.l xs) => (match d with
    | .int j => atI xs j
    | _ => none)
  | _ => none
theorem pd_itm {X : Cx} {e : Expr} {f : En → Option D} {i : Nat} {x : Str} {p pos : Pos} (hN : X.N[i]? = some x) (hv : Vis X.env.scope x) (hd : (x == ("__debug__" : Str)) = false) (hcd : (x == ("__classdict__" : Str)) = false) (he : PE X e (tD X.kf f)) (hs : PlainIx e) : PE X (.Subscript (.Name x p) e pos) (tD X.kf (gitm i f)) := by
  refine PEi (pe_ix ix_list (pe_var (i := i) hN hv hd hcd) he hs) fun σ H Q h => ?_
  obtain ⟨P, F, ρ, d, vw, e, k⟩ := h
  obtain ⟨y, ey, e⟩ := bind_some_iff e
  split at e
  · rename_i xs exs
    split at e
    · obtain ⟨a, vs, es, e1, e2, e3, e4⟩ := vw.getL exs
      refine ⟨.ref a, es, P, F, ρ, _, vw, ey, fun v F1 H1 g1 q1 => ?_⟩
      cases q1
      obtain ⟨w, e5, e6⟩ := e4.atI e
      exact ⟨a, vs, _, w, rfl, rfl, .of (g1.hh _ _ e1), e5, k w F1 H1 g1 (e6.same g1.ff)⟩
    · cases e
  · cases e
/-- own lists read as data, for a scalar answer -/
def brw : List Nat → En → En
  | [], ρ => ρ
  | i :: is, ρ => match ρ[i]? with
    | some (.l xs) => brw is (ρ.set i (.d (.lst xs)))
    | _ => brw is ρ
def scal : D → Option D
  | .non => some .non
  | .bl b => some (.bl b)
  | .int i => some (.int i)
  | .str l => some (.str l)
  | _ => none
def gbor (is : List Nat) (f : En → Option D) : En → Option D := fun ρ => (f (brw is ρ)).bind scal
theorem scal_some {d e : D} (h : scal d = some e) : e = d ∧ ∀ {K : Kf} {F F' : Hp} {v : V}, Da K F v d → Da K F' v d := by
  unfold scal at h
  split at h
  · cases h; exact ⟨rfl, fun q => by cases q; exact .non⟩
  · cases h; exact ⟨rfl, fun q => by cases q; exact .bl _⟩
  · cases h; exact ⟨rfl, fun q => by cases q; exact .int _⟩
  · cases h; exact ⟨rfl, fun q => by cases q; exact .str _⟩
  · cases h
theorem Vw.brw {K : Kf} {P : Addr → Prop} {H : Hp} {σ : St} : ∀ (is : List Nat) {F : Hp} {ρ : En}, Vw K P F H σ ρ → ∃ F', Same F F' ∧ Vw K P F' H σ (DL.brw is ρ)
  | [], F, ρ, h => ⟨F, Same.refl _, h⟩
  | i :: is, F, ρ, h => by
    unfold DL.brw
    split
    · obtain ⟨a, vs, e1, e2, e3, e4⟩ := h.frz (by assumption)
      obtain ⟨F', s, q⟩ := Vw.brw is e4
      exact ⟨F', (same_upd e2).trans s, q⟩
    · exact Vw.brw is h
theorem pd_bor {X : Cx} {e : Expr} {f : En → Option D} (is : List Nat) (h : PE X e (tD X.kf f)) : PE X e (tD X.kf (gbor is f)) := by
  refine PEi h fun σ H Q w => ?_
  obtain ⟨P, F, ρ, d, vw, e, k⟩ := w
  obtain ⟨x, ex, e⟩ := bind_some_iff e
  obtain ⟨rfl, hs⟩ := scal_some e
  obtain ⟨F', s, vw'⟩ := vw.brw is
  exact ⟨P, F', _, _, vw', ex, fun v F1 H1 g1 q1 => k v F H1 ⟨g1.hh, Same.refl _, (s.trans g1.ff).trans g1.fh, fun _ _ z => .inl z⟩ (hs q1)⟩
theorem pdt_bor {X : Cx} {e : Expr} {f : En → Option D} (is : List Nat) (h : PT X e (tDT X.kf (ft f))) : PT X e (tDT X.kf (ft (gbor is f))) := by
  refine PTi h fun σ H Q w => ?_
  obtain ⟨P, F, ρ, d, vw, e, k⟩ := w
  obtain ⟨x, ex, e⟩ := bind_some_iff e
  obtain ⟨y, ey, ex⟩ := bind_some_iff ex
  obtain ⟨rfl, hs⟩ := scal_some ex
  obtain ⟨F', s, vw'⟩ := vw.brw is
  exact ⟨P, F', _, _, vw', by unfold ft; rw [ey]; exact e, fun F1 H1 g1 => k F H1 ⟨g1.hh, Same.refl _, (s.trans g1.ff).trans g1.fh, fun _ _ z => .inl z⟩⟩
/-- x.replace of one sign by another -/
def rplD (y z : Nat) : D → Option D
  | .str l => if l.length ≤ 1000000 then some (.str (l.map fun c => if c = y then z else c)) else none
  | _ => none
def lkG (S : PIn) (j : Nat) : En → Option D := fun _ => match S.gds[j]? with | some (_, d) => some d | none => none
mutual
def ev (S : PIn) (G : Nat → List D → Option D) : ME → En → Option D
  | .var i => gv i
  | .non => gc .non
  | .bl b => gc (.bl b)
  | .int i => gc (.int i)
  | .str l => gc (.str l)
  | .glo j => lkG S j
  | .bin op a b => bind2 op.run (ev S G a) (ev S G b)
  | .cmp op a b => bind2 op.run (ev S G a) (ev S G b)
  | .chain op op' a b c => gchain op.run op'.run (ev S G a) (ev S G b) (ev S G c)
  | .not a => fun ρ => (ft (ev S G a) ρ).map fun b => .bl (!b)
  | .neg n => gc (.int (-n))
  | .and es => evAnd S G es
  | .or es => evOr S G es
  | .ite c a b => gif (ft (ev S G c)) (ev S G a) (ev S G b)
  | .tup es => gtup (evs S G es)
  | .lst es => fz (glst (evs S G es))
  | .cat a b => fz (gcat (ev S G a) (ev S G b))
  | .idx a b => bind2 idxD (ev S G a) (ev S G b)
  | .slc a lo hi => gslc (ev S G a) (evO S G lo) (evO S G hi)
  | .call j es => bindS (G j) (evs S G es)
  | .blt f es => bindS f.run (evs S G es)
  | .m1 f a b => meth1 f.run (ev S G a) (ev S G b)
  | .m0 f a => bind1 f.run (ev S G a)
  | .rev a => bind1 revD (ev S G a)
  | .mnin i a => gmnin i (ev S G a)
  | .mget i a b => gmget i (ev S G a) (ev S G b)
  | .mat i a => gmat i (ev S G a)
  | .isi T a => bind1 (isiD T.nm) (ev S G a)
  | .isi2 T U a => bind1 (isi2D T.nm U.nm) (ev S G a)
  | .comp elt t it c => fz (gcomp t.slots (evI S G it) t (evC S G c) (ev S G elt))
  | .bor is e => gbor is (ev S G e)
  | .itm i e => gitm i (ev S G e)
  | .dic ps => gdic (evP S G ps)
  | .dix a b => bind2 dixD (ev S G a) (ev S G b)
  | .gdx j b => bind1 (gdxL ((S.gdd[j]?.map (·.2)).getD [])) (ev S G b)
  | .dgt a b c => bind3 dgtD (ev S G a) (ev S G b) (ev S G c)
  | .sortM i => gsortM i
  | .stp a lo st => bind2 (stpD st) (ev S G a) (ev S G lo)
  | .negE a => bind1 negD (ev S G a)
  | .tdl i => gtd i
  | .tld i => gtl i
  | .tlt i => gto i
  | .rowT i => gmr0 (gate (G 1002) aRow) i
  | .ovrT i => gmr0 (gate (G 1002) aOver) i
  | .comT i => gmr0 (gate (G 1002) aCom) i
  | .finT i a => gmr1 (gate (G 1002) (aFin (G 1001))) i (ev S G a)
  | .newC a => gnewC (G 1002) (ev S G a)
  | .newF a b => gnewF (G 1002) (G 1001) (ev S G a) (ev S G b)
  | .rpl y z a => bind1 (rplD y z) (ev S G a)
  | .fgt a => bind1 (fun d => some (fgtD d)) (ev S G a)
  | .addB a b => bind2 DL.addB (ev S G a) (ev S G b)
  | .cntB a b => bind2 DL.cntB (ev S G a) (ev S G b)
  | .srtS a => bind1 DL.srtS (ev S G a)
def evP (S : PIn) (G : Nat → List D → Option D) : MPs → List ((En → Option D) × (En → Option D))
  | .nil => []
  | .cons k v r => (ev S G k, ev S G v) :: evP S G r
def evs (S : PIn) (G : Nat → List D → Option D) : MEs → En → Option (List D)
  | .nil => gnil
  | .cons e es => gcons (ev S G e) (evs S G es)
def evAnd (S : PIn) (G : Nat → List D → Option D) : MEs → En → Option D
  | .nil => fun _ => none
  | .cons e .nil => ev S G e
  | .cons e (.cons e' es) => gand (ev S G e) (evAnd S G (.cons e' es))
def evOr (S : PIn) (G : Nat → List D → Option D) : MEs → En → Option D
  | .nil => fun _ => none
  | .cons e .nil => ev S G e
  | .cons e (.cons e' es) => gor (ev S G e) (evOr S G (.cons e' es))
def evO (S : PIn) (G : Nat → List D → Option D) : MO → En → Option (Option Int)
  | .none => goN
  | .some e => goS (ev S G e)
def evC (S : PIn) (G : Nat → List D → Option D) : MO → En → Option Bool
  | .none => gyes
  | .some e => ft (ev S G e)
def evI (S : PIn) (G : Nat → List D → Option D) : MI → En → Option (List D)
  | .dat e => gitems (ev S G e)
  | .rng1 a => grng1 (gcons (ev S G a) gnil)
  | .rng2 a b => grng2 (gcons (ev S G a) (gcons (ev S G b) gnil))
  | .zip a b => gzip (gcons (ev S G a) (gcons (ev S G b) gnil))
  | .enumL a => genumA (gcons (ev S G a) gnil)
  | .keys i => gkeys i
end
end DL
end
section
namespace DL
open PySem PySem.Spec L2
open PyProof.Rows hiding St

/-! ### shapes of the text -/
def nStar : Expr → Bool
  | .Starred _ _ => false
  | _ => true
theorem star_cons {e : Expr} {es : List Expr} {env : Env} (h : nStar e = true) : starEach (e :: es) env = (false, eval e env) :: starEach es env := by
  cases e <;> first | rfl | (exact absurd h (by decide)) | cases h
theorem star_any {env : Env} {pos : Pos} : ∀ {es : List Expr}, es.all nStar = true → (backTo pos (starEach es env)).any (·.1) = false
  | [], _ => rfl
  | e :: es, h => by
    rw [List.all_cons, Bool.and_eq_true] at h
    rw [star_cons h.1]
    show (false || (backTo pos (starEach es env)).any (·.1)) = false
    rw [star_any h.2]
    rfl
def nbase : Expr → Bool
  | .Call (.Name _ _) [] [] _ => false
  | _ => true
theorem base_of {o : Expr} {attr : Str} {env : Env} {w : Sem Value} (h : nbase o = true) : attributeBase o attr env w = w := by
  unfold attributeBase
  split
  · cases h
  · rfl
def nset : Expr → Bool
  | .Set _ _ _ => false
  | _ => true
theorem fold_of {e : Expr} {env : Env} (h : nset e = true) (x : Value) : foldedSetIterable e env x = pure x := by
  unfold foldedSetIterable
  cases e <;> first | rfl | cases h
theorem marks_of {op : CmpOp} {b : Expr} (h : nset b = true) : behindInMarks op b = false := by
  cases b <;> first | rfl | cases h
theorem marks2_of {op op' : CmpOp} {b c : Expr} (h : nset c = true) : lastMarks [op, op'] [b, c] = false := by
  show lastMarks [op'] [c] = false
  exact marks_of h
def nsl : Expr → Bool
  | .Slice _ _ _ _ => false
  | _ => true
theorem ix_of {b : Expr} (h : nsl b = true) : PlainIx b := fun o i => by
  cases b <;> first | rfl | cases h
def plainE : Expr → Bool
  | .UnaryOp .Not _ _ => false
  | .BoolOp _ _ _ => false
  | .IfExp _ _ _ _ => false
  | .Compare _ _ _ _ => false
  | _ => true
theorem plain_of {e : Expr} {env : Env} (h : plainE e = true) (whole : Sem Value) : isTrue e env whole = (do let v ← whole; standAt e.pos; holding [v] (truthy v)) := by
  cases e with
  | UnaryOp op a pos => cases op <;> first | rfl | cases h
  | BoolOp _ _ _ => cases h
  | IfExp _ _ _ _ => cases h
  | Compare _ _ _ _ => cases h
  | _ => rfl
def isTupE : Expr → Bool
  | .Tuple _ _ _ => true
  | _ => false

/-! ### the small language against the text -/
mutual
def chkT (c : SC) : Tg → Expr → Bool
  | .nm i, e => match e with
    | .Name x _ => decide (c.N[i]? = some x) && c.sto x
    | _ => false
  | .tp ts, e => match e with
    | .Tuple es _ _ => chkTs c ts es
    | _ => false
def chkTs (c : SC) : Tgs → List Expr → Bool
  | .nil, es => es.isEmpty
  | .cons t ts, es => match es with
    | e :: r => chkT c t e && chkTs c ts r
    | [] => false
end
theorem chkT_nstar {c : SC} {t : Tg} {e : Expr} (h : chkT c t e = true) : nStar e = true := by
  cases t with
  | nm i =>
    unfold chkT at h
    split at h
    · rfl
    · cases h
  | tp ts =>
    unfold chkT at h
    split at h
    · rfl
    · cases h
theorem asgE_cons {e : Expr} {es : List Expr} {env : Env} (h : nStar e = true) : assignEach (e :: es) env = (false, assign e env) :: assignEach es env := by
  cases e <;> first | rfl | cases h
def ownOf (c : SC) (t : Tg) : List (Str × Nat) := t.slots.map fun i => (c.N.getD i "", i)
theorem ownOf_slots (c : SC) (t : Tg) : (ownOf c t).map (·.2) = t.slots := by
  unfold ownOf
  rw [List.map_map]
  exact List.map_id _
def scOf (c : SC) : Scope := { kind := .function, names := c.names, isGenerator := false, isCoroutine := false }
def ME.tst : ME → Bool
  | .ite _ _ _ => false
  | _ => true
def MEs.tst : MEs → Bool
  | .nil => true
  | .cons e es => e.tst && es.tst
mutual
def chkE (S : PIn) (c : SC) : ME → Expr → Bool
  | .var i, e => match e with
    | .Name x _ => decide (c.N[i]? = some x) && c.vis x
    | _ => false
  | .non, e => match e with
    | .Constant .none _ _ => true
    | _ => false
  | .bl b, e => match e with
    | .Constant (.bool b') _ _ => decide (b = b')
    | _ => false
  | .int i, e => match e with
    | .Constant (.int j) _ _ => decide (i = j)
    | _ => false
  | .str l, e => match e with
    | .Constant (.str x) _ _ => decide (TL.tl x = l)
    | _ => false
  | .glo j, e => match e with
    | .Name x _ => c.gl x && (match S.gds[j]? with | some (y, _) => decide (x = y) | none => false)
    | _ => false
  | .bin op a b, e => match e with
    | .BinOp ea o eb _ => decide (o = op.op) && chkE S c a ea && chkE S c b eb
    | _ => false
  | .cmp op a b, e => match e with
    | .Compare ea [o] [eb] _ => decide (o = op.op) && nset eb && chkE S c a ea && chkE S c b eb
    | _ => false
  | .chain op op' a b d, e => match e with
    | .Compare ea [o, o'] [eb, ed] _ => decide (o = op.op) && decide (o' = op'.op) && nset ed && chkE S c a ea && chkE S c b eb && chkE S c d ed
    | _ => false
  | .not a, e => match e with
    | .UnaryOp .Not ea _ => chkE S c a ea && a.tst
    | _ => false
  | .neg n, e => match e with
    | .UnaryOp .USub (.Constant (.int j) _ _) _ => decide (n = j)
    | _ => false
  | .and es, e => match e with
    | .BoolOp .And xs _ => chkEs S c es xs && es.tst && !xs.isEmpty
    | _ => false
  | .or es, e => match e with
    | .BoolOp .Or xs _ => chkEs S c es xs && es.tst && !xs.isEmpty
    | _ => false
  | .ite d a b, e => match e with
    | .IfExp ed ea eb _ => chkE S c d ed && d.tst && chkE S c a ea && chkE S c b eb
    | _ => false
  | .tup es, e => match e with
    | .Tuple xs _ _ => chkEs S c es xs
    | _ => false
  | .lst es, e => match e with
    | .List xs _ => chkEs S c es xs
    | _ => false
  | .cat a b, e => match e with
    | .BinOp ea .Add eb _ => chkE S c a ea && chkE S c b eb
    | _ => false
  | .idx a b, e => match e with
    | .Subscript ea eb _ => nsl eb && chkE S c a ea && chkE S c b eb
    | _ => false
  | .slc a lo hi, e => match e with
    | .Subscript ea (.Slice l h none _) _ => chkE S c a ea && chkO S c lo l && chkO S c hi h
    | _ => false
  | .call j es, e => match e with
    | .Call (.Name x _) xs [] _ => c.gl x && chkEs S c es xs && !xs.isEmpty && (match S.fns[j]? with | some (y, n) => decide (x = y) && decide (n = xs.length) | none => false)
    | _ => false
  | .blt f es, e => match e with
    | .Call (.Name x _) xs [] _ => decide (x = f.name) && c.gl x && decide (x ∈ S.bn) && chkEs S c es xs && !xs.isEmpty
    | _ => false
  | .m1 f a b, e => match e with
    | .Call (.Attribute ea nm ap) [eb] [] pos => decide (nm = f.name) && (ap.endLine == pos.line) && nbase ea && nStar eb && chkE S c a ea && chkE S c b eb
    | _ => false
  | .m0 f a, e => match e with
    | .Call (.Attribute ea nm ap) [] [] pos => decide (nm = f.name) && (ap.endLine == pos.line) && nbase ea && chkE S c a ea
    | _ => false
  | .rev a, e => match e with
    | .Subscript ea (.Slice none none (some (.UnaryOp .USub (.Constant (.int j) _ _) _)) _) _ => decide (j = 1) && chkE S c a ea
    | _ => false
  | .mnin i m, e => match e with
    | .Compare ea [.NotIn] [.Name x _] _ => decide (c.N[i]? = some x) && c.vis x && chkE S c m ea
    | _ => false
  | .mget i a b, e => match e with
    | .Call (.Attribute (.Name x _) nm ap) [ea, eb] [] pos => decide (nm = "get") && decide (c.N[i]? = some x) && c.vis x && (ap.endLine == pos.line) && nStar ea && nStar eb && chkE S c a ea && chkE S c b eb
    | _ => false
  | .mat i m, e => match e with
    | .Subscript (.Name x _) eb _ => decide (c.N[i]? = some x) && c.vis x && nsl eb && chkE S c m eb
    | _ => false
  | .isi T a, e => match e with
    | .Call (.Name x _) [ea, .Name tx _] [] _ => decide (x = "isinstance") && c.gl x && decide (x ∈ S.bn) && decide (tx = T.name) && c.gl tx && decide (tx ∈ S.bn) && nStar ea && chkE S c a ea
    | _ => false
  | .isi2 T U a, e => match e with
    | .Call (.Name x _) [ea, .Tuple [.Name tx _, .Name ux _] _ _] [] _ => decide (x = "isinstance") && c.gl x && decide (x ∈ S.bn) && decide (tx = T.name) && c.gl tx && decide (tx ∈ S.bn) && decide (ux = U.name) && c.gl ux && decide (ux ∈ S.bn) && nStar ea && chkE S c a ea
    | _ => false
  | .comp elt t it d, e => match e with
    | .ListComp ee [⟨tg, ei, ifs, as⟩] scope _ => decide (as = 0) && decide (scope.kind = .function) && blkC c.N (scOf c) scope (ownOf c t) && nset ei && chkT (c.blk scope) t tg && chkI S c tg it ei && chkC S (c.blk scope) d ifs && chkE S (c.blk scope) elt ee
    | _ => false
  | .bor is m, e => chkE S c m e && m.tst
  | .itm i m, e => match e with
    | .Subscript (.Name x _) eb _ => decide (c.N[i]? = some x) && c.vis x && nsl eb && chkE S c m eb
    | _ => false
  | .dic ps, e => match e with
    | .Dict keys values _ => chkP S c ps keys values && !keys.isEmpty && decide (keys.length ≤ 15)
    | _ => false
  | .dix a b, e => match e with
    | .Subscript ea eb _ => nsl eb && chkE S c a ea && chkE S c b eb
    | _ => false
  | .gdx j b, e => match e with
    | .Subscript (.Name x _) eb _ => c.gl x && (match S.gdd[j]? with | some (y, _) => decide (x = y) | none => false) && nsl eb && chkE S c b eb
    | _ => false
  | .dgt a b d, e => match e with
    | .Call (.Attribute ea nm ap) [eb, ed] [] pos => decide (nm = "get") && (ap.endLine == pos.line) && nbase ea && nStar eb && nStar ed && chkE S c a ea && chkE S c b eb && chkE S c d ed
    | _ => false
  | .sortM i, e => match e with
    | .Call (.Name x _) [.Name y _] [] _ => decide (x = "sorted") && c.gl x && decide (x ∈ S.bn) && decide (c.N[i]? = some y) && c.vis y
    | _ => false
  | .stp a lo st, e => match e with
    | .Subscript ea (.Slice (some el) none (some (.Constant (.int j) _ _)) _) _ => decide (j = st) && chkE S c a ea && chkE S c lo el
    | _ => false
  | .negE a, e => match e with
    | .UnaryOp .USub ea _ => chkE S c a ea
    | _ => false
  | .tdl i, e => match e with
    | .Attribute (.Name x _) nm _ => S.tab && decide (nm = "deal") && decide (c.N[i]? = some x) && c.vis x
    | _ => false
  | .tld i, e => match e with
    | .Attribute (.Name x _) nm _ => S.tab && decide (nm = "laid") && decide (c.N[i]? = some x) && c.vis x
    | _ => false
  | .tlt i, e => match e with
    | .Subscript (.Attribute (.Name x _) nm _) (.UnaryOp .USub (.Constant (.int j) _ _) _) _ => S.tab && decide (nm = "rests") && decide (j = 1) && decide (c.N[i]? = some x) && c.vis x
    | _ => false
  | .rowT i, e => match e with
    | .Call (.Attribute (.Name x _) nm ap) [] [] pos => S.tab && decide (nm = "row") && decide (c.N[i]? = some x) && c.vis x && (ap.endLine == pos.line)
    | _ => false
  | .ovrT i, e => match e with
    | .Call (.Attribute (.Name x _) nm ap) [] [] pos => S.tab && decide (nm = "over") && decide (c.N[i]? = some x) && c.vis x && (ap.endLine == pos.line)
    | _ => false
  | .comT i, e => match e with
    | .Call (.Attribute (.Name x _) nm ap) [] [] pos => S.tab && decide (nm = "is_common") && decide (c.N[i]? = some x) && c.vis x && (ap.endLine == pos.line)
    | _ => false
  | .finT i a, e => match e with
    | .Call (.Attribute (.Name x _) nm ap) [ea] [] pos => !S.nf && S.tab && decide (nm = "finish") && decide (c.N[i]? = some x) && c.vis x && (ap.endLine == pos.line) && nStar ea && chkE S c a ea
    | _ => false
  | .newC a, e => match e with
    | .Call (.Attribute (.Call (.Name y _) [ea] [] _) nm ap) [] [] pos => S.tab && decide (nm = "is_common") && decide (y = "Table") && c.gl y && (ap.endLine == pos.line) && nStar ea && chkE S c a ea
    | _ => false
  | .newF a b, e => match e with
    | .Call (.Attribute (.Call (.Name y _) [ea] [] _) nm ap) [eb] [] pos => !S.nf && S.tab && decide (nm = "finish") && decide (y = "Table") && c.gl y && (ap.endLine == pos.line) && nStar ea && nStar eb && chkE S c a ea && chkE S c b eb
    | _ => false
  | .rpl _ _ _, _ => false
  | .fgt a, e => plainE e && chkE S c a e
  | .srtS a, e => match e with
    | .Call (.Name y _) [.Call (.Name z _) [ea] [] _] [] _ => decide (y = "sorted") && decide (z = "set") && c.gl y && c.gl z && decide (("sorted" : Str) ∈ S.bn) && decide (("set" : Str) ∈ S.bn) && nStar ea && chkE S c a ea
    | _ => false
  | .addB a b, e => match e with
    | .BinOp ea .Add (.Tuple [eb] _ _) _ => nStar eb && chkE S c a ea && chkE S c b eb
    | _ => false
  | .cntB a b, e => match e with
    | .Call (.Attribute ea nm ap) [eb] [] pos => decide (nm = "count") && (ap.endLine == pos.line) && nbase ea && nStar eb && chkE S c a ea && chkE S c b eb
    | _ => false
def chkP (S : PIn) (c : SC) : MPs → List (Option Expr) → List Expr → Bool
  | .nil, ks, vs => ks.isEmpty && vs.isEmpty
  | .cons k v r, ks, vs => match ks, vs with
    | some ek :: ks', ev :: vs' => chkE S c k ek && chkE S c v ev && chkP S c r ks' vs'
    | _, _ => false
def chkEs (S : PIn) (c : SC) : MEs → List Expr → Bool
  | .nil, es => es.isEmpty
  | .cons m ms, es => match es with
    | e :: r => nStar e && chkE S c m e && chkEs S c ms r
    | [] => false
def chkO (S : PIn) (c : SC) : MO → Option Expr → Bool
  | .none, o => o.isNone
  | .some m, o => match o with
    | some e => chkE S c m e
    | none => false
def chkC (S : PIn) (c : SC) : MO → List Expr → Bool
  | .none, es => es.isEmpty
  | .some m, es => match es with
    | [e] => chkE S c m e && m.tst
    | _ => false
def chkI (S : PIn) (c : SC) (tg : Expr) : MI → Expr → Bool
  | .dat m, e => chkE S c m e
  | .rng1 a, e => match e with
    | .Call (.Name x _) [ea] [] _ => decide (x = "range") && c.gl x && decide (x ∈ S.bn) && nStar ea && chkE S c a ea
    | _ => false
  | .rng2 a b, e => match e with
    | .Call (.Name x _) [ea, eb] [] _ => decide (x = "range") && c.gl x && decide (x ∈ S.bn) && nStar ea && chkE S c a ea && nStar eb && chkE S c b eb
    | _ => false
  | .zip a b, e => match e with
    | .Call (.Name x _) [ea, eb] [] _ => decide (x = "zip") && isTupE tg && c.gl x && decide (x ∈ S.bn) && nStar ea && chkE S c a ea && nStar eb && chkE S c b eb
    | _ => false
  | .enumL a, e => match e with
    | .Call (.Name x _) [ea] [] _ => decide (x = "enumerate") && isTupE tg && c.gl x && decide (x ∈ S.bn) && nStar ea && chkE S c a ea
    | _ => false
  | .keys i, e => match e with
    | .Name x _ => decide (c.N[i]? = some x) && c.vis x
    | _ => false
end
end DL
end
section
namespace DL
open PySem PySem.Spec L2
open PyProof.Rows hiding St

section
variable {S : PIn} {G : Nat → List D → Option D} {k : Nat}
mutual
theorem sndT : ∀ (t : Tg) {X : Cx} {c : SC} {e : Expr}, Cok S G k X c → chkT c t e = true → PG X e (gD X.kf t)
  | .nm i, X, c, e, hX, h => by
    unfold chkT at h
    split at h
    · rename_i x p
      simp only [Bool.and_eq_true, decide_eq_true_eq] at h
      obtain ⟨h1, h2⟩ := hX.sto h.2
      exact pgd_name hX.nd' (by rw [hX.N]; exact h.1) h1 h2
    · cases h
  | .tp ts, X, c, e, hX, h => by
    unfold chkT at h
    split at h
    · obtain ⟨h1, h2, h3⟩ := sndTs ts hX h
      exact pgd_tup hX.calm h1 h2 h3
    · cases h
theorem sndTs : ∀ (t : Tgs) {X : Cx} {c : SC} {es : List Expr}, Cok S G k X c → chkTs c t es = true → PGs X es (gDs X.kf t) ∧ (assignEach es X.env).length = t.len ∧ (assignEach es X.env).findIdx? (·.1) = none
  | .nil, X, c, es, hX, h => by
    unfold chkTs at h
    cases es with
    | nil => exact ⟨pgds_nil, rfl, rfl⟩
    | cons _ _ => cases h
  | .cons t ts, X, c, es, hX, h => by
    unfold chkTs at h
    split at h
    · rename_i e r
      simp only [Bool.and_eq_true] at h
      obtain ⟨h1, h2, h3⟩ := sndTs ts hX h.2
      have hn := chkT_nstar h.1
      refine ⟨pgds_cons (sndT t hX h.1) h1 (by rw [asgE_cons hn]; rfl), ?_, ?_⟩
      · rw [asgE_cons hn, List.length_cons, h2]
        rfl
      · rw [asgE_cons hn, List.findIdx?_cons]
        simp only [Bool.false_eq_true, if_false, h3]
        rfl
    · cases h
end

theorem Cok.blkOk {X : Cx} {c : SC} (hX : Cok S G k X c) {scope : Scope} {own : List (Str × Nat)} (h : blkC c.N (scOf c) scope own = true) : BlkOk X.N X.env.scope scope own := by
  obtain ⟨a, b, d, e, f⟩ := blkOk_by h
  refine ⟨a, b, by rw [hX.N]; exact d, ?_, by rw [hX.N]; exact f⟩
  rw [hX.names]
  exact e
theorem both {X : Cx} {e : Expr} {f : En → Option D} {b : Bool} (h : PE X e (tD X.kf f)) (hp : plainE e = true) : PE X e (tD X.kf f) ∧ (b = true → PT X e (tDT X.kf (ft f))) := ⟨h, fun _ => pdt_plain h fun w => plain_of hp w⟩
theorem chkEs_star {c : SC} : ∀ {ms : MEs} {es : List Expr}, chkEs S c ms es = true → es.all nStar = true
  | .nil, es, h => by
    unfold chkEs at h
    cases es with
    | nil => rfl
    | cons _ _ => cases h
  | .cons m ms, es, h => by
    unfold chkEs at h
    split at h
    · simp only [Bool.and_eq_true] at h
      rw [List.all_cons, h.1.1, chkEs_star h.2]
      rfl
    · cases h
theorem evs_len : ∀ {ms : MEs} {c : SC} {es : List Expr} {ρ : En} {ds : List D}, chkEs S c ms es = true → evs S G ms ρ = some ds → ds.length = es.length
  | .nil, c, es, ρ, ds, h, e => by
    unfold chkEs at h
    cases es with
    | nil =>
      rw [evs] at e
      cases e
      rfl
    | cons _ _ => cases h
  | .cons m ms, c, es, ρ, ds, h, e => by
    unfold chkEs at h
    split at h
    · simp only [Bool.and_eq_true] at h
      rw [evs] at e
      obtain ⟨x, ex, e⟩ := bind_some_iff e
      obtain ⟨xs, exs, e⟩ := bind_some_iff e
      cases e
      rw [List.length_cons, List.length_cons, evs_len h.2 exs]
    · cases h

mutual
theorem sndE : ∀ (m : ME) {X : Cx} {c : SC} {e : Expr}, Cok S G k X c → chkE S c m e = true → PE X e (tD X.kf (ev S G m)) ∧ (m.tst = true → PT X e (tDT X.kf (ft (ev S G m))))
  | .var i, X, c, e, hX, h => by
    unfold chkE at h
    split at h
    · simp only [Bool.and_eq_true, decide_eq_true_eq] at h
      obtain ⟨h1, h2, h3⟩ := hX.vis h.2
      rw [ev]
      exact both (pd_var (by rw [hX.N]; exact h.1) h1 h2 h3) rfl
    · cases h
  | .non, X, c, e, hX, h => by
    unfold chkE at h
    split at h
    · rw [ev]
      exact both pd_non rfl
    · cases h
  | .bl b, X, c, e, hX, h => by
    unfold chkE at h
    split at h
    · simp only [decide_eq_true_eq] at h
      subst h
      rw [ev]
      exact both pd_bl rfl
    · cases h
  | .int i, X, c, e, hX, h => by
    unfold chkE at h
    split at h
    · simp only [decide_eq_true_eq] at h
      subst h
      rw [ev]
      exact both pd_int rfl
    · cases h
  | .str l, X, c, e, hX, h => by
    unfold chkE at h
    split at h
    · simp only [decide_eq_true_eq] at h
      subst h
      rw [ev]
      exact both pd_str rfl
    · cases h
  | .glo j, X, c, e, hX, h => by
    unfold chkE at h
    split at h
    · rw [Bool.and_eq_true] at h
      obtain ⟨h1, h2⟩ := h
      split at h2
      · rename_i y d ey
        simp only [decide_eq_true_eq] at h2
        subst h2
        obtain ⟨v, u, q1, q2, q3⟩ := hX.gds _ _ _ ey
        obtain ⟨g1, g2, g3⟩ := hX.gl h1
        have : ev S G (.glo j) = gc d := by
          rw [ev]
          funext ρ
          unfold lkG
          rw [ey]
          rfl
        rw [this]
        exact both (pd_glob g1 q1 q2 q3 g2) rfl
      · cases h2
    · cases h
  | .bin op a b, X, c, e, hX, h => by
    unfold chkE at h
    split at h
    · simp only [Bool.and_eq_true, decide_eq_true_eq] at h
      obtain ⟨⟨rfl, h1⟩, h2⟩ := h
      rw [ev]
      exact both (pd_bin op.ok (sndE a hX h1).1 (sndE b hX h2).1) rfl
    · cases h
  | .cmp op a b, X, c, e, hX, h => by
    unfold chkE at h
    split at h
    · simp only [Bool.and_eq_true, decide_eq_true_eq] at h
      obtain ⟨⟨⟨rfl, h0⟩, h1⟩, h2⟩ := h
      rw [ev]
      exact ⟨pd_cmp (op.ok hX.units) (marks_of h0) (sndE a hX h1).1 (sndE b hX h2).1, fun _ => pdt_cmp op.isB (op.ok hX.units) (marks_of h0) (sndE a hX h1).1 (sndE b hX h2).1⟩
    · cases h
  | .chain op op' a b d, X, c, e, hX, h => by
    unfold chkE at h
    split at h
    · simp only [Bool.and_eq_true, decide_eq_true_eq] at h
      obtain ⟨⟨⟨⟨⟨rfl, rfl⟩, h0⟩, h1⟩, h2⟩, h3⟩ := h
      rw [ev]
      exact ⟨pd_chain (op.ok hX.units) (op'.ok hX.units) (marks2_of h0) (sndE a hX h1).1 (sndE b hX h2).1 (sndE d hX h3).1, fun _ => pdt_chain op'.isB (op.ok hX.units) (op'.ok hX.units) (marks2_of h0) (sndE a hX h1).1 (sndE b hX h2).1 (sndE d hX h3).1⟩
    · cases h
  | .not a, X, c, e, hX, h => by
    unfold chkE at h
    split at h
    · simp only [Bool.and_eq_true] at h
      rw [ev]
      refine ⟨pd_not (sndE a hX h.1).1, fun _ => PTi (pdt_not ((sndE a hX h.1).2 h.2)) fun σ H Q w => ?_⟩
      obtain ⟨P, F, ρ, b, vw, e, k⟩ := w
      refine ⟨P, F, ρ, b, vw, ?_, k⟩
      obtain ⟨z, ez, e⟩ := bind_some_iff e
      obtain ⟨y, ey, rfl⟩ := Option.map_eq_some_iff.mp ez
      show Option.map (fun x => !x) (ft (ev S G a) ρ) = some b
      rw [ey]
      exact e
    · cases h
  | .neg n, X, c, e, hX, h => by
    unfold chkE at h
    split at h
    · simp only [decide_eq_true_eq] at h
      subst h
      rw [ev]
      refine both (PEi (pe_un un_neg pe_int) fun σ H Q w => ?_) rfl
      obtain ⟨P, F, ρ, b, vw, e, k⟩ := w
      cases e
      exact ⟨n, rfl, k _ F H (Gr.refl vw.sub) (.int _)⟩
    · cases h
  | .and es, X, c, e, hX, h => by
    unfold chkE at h
    split at h
    · simp only [Bool.and_eq_true] at h
      rename_i xs ps
      rw [ev]
      have := sndAnd es (pos := ps) hX h.1.1 h.1.2 (fun z => by
        subst z
        have h0 := h.1.1
        have h2 := h.2
        unfold chkEs at h0
        rw [h0] at h2
        cases h2)
      exact ⟨this.1, fun _ => this.2.pt⟩
    · cases h
  | .or es, X, c, e, hX, h => by
    unfold chkE at h
    split at h
    · simp only [Bool.and_eq_true] at h
      rename_i xs ps
      rw [ev]
      have := sndOr es (pos := ps) hX h.1.1 h.1.2 (fun z => by
        subst z
        have h0 := h.1.1
        have h2 := h.2
        unfold chkEs at h0
        rw [h0] at h2
        cases h2)
      exact ⟨this.1, fun _ => this.2.pt⟩
    · cases h
  | .ite d a b, X, c, e, hX, h => by
    unfold chkE at h
    split at h
    · simp only [Bool.and_eq_true] at h
      rw [ev]
      exact ⟨pd_if ((sndE d hX h.1.1.1).2 h.1.1.2) (sndE a hX h.1.2).1 (sndE b hX h.2).1, fun z => nomatch z⟩
    · cases h
  | .tup es, X, c, e, hX, h => by
    unfold chkE at h
    split at h
    · rw [ev]
      exact both (pd_tup (sndEs es hX h)) rfl
    · cases h
  | .lst es, X, c, e, hX, h => by
    unfold chkE at h
    split at h
    · rw [ev]
      exact both (pd_of_l (pdl_lst (sndEs es hX h))) rfl
    · cases h
  | .cat a b, X, c, e, hX, h => by
    unfold chkE at h
    split at h
    · simp only [Bool.and_eq_true] at h
      rw [ev]
      exact both (pd_of_l (pdl_cat (sndE a hX h.1).1 (sndE b hX h.2).1)) rfl
    · cases h
  | .idx a b, X, c, e, hX, h => by
    unfold chkE at h
    split at h
    · simp only [Bool.and_eq_true] at h
      rw [ev]
      exact both (pd_idx (sndE a hX h.1.2).1 (sndE b hX h.2).1 (ix_of h.1.1)) rfl
    · cases h
  | .slc a lo hi, X, c, e, hX, h => by
    unfold chkE at h
    split at h
    · simp only [Bool.and_eq_true] at h
      rw [ev]
      exact both (pd_slc (sndE a hX h.1.1).1 (sndO lo hX h.1.2) (sndO hi hX h.2)) rfl
    · cases h
  | .call j es, X, c, e, hX, h => by
    unfold chkE at h
    split at h
    · rename_i x p xs pos
      simp only [Bool.and_eq_true] at h
      obtain ⟨⟨⟨h1, h2⟩, h3⟩, h4⟩ := h
      split at h4
      · rename_i y n ey
        simp only [Bool.and_eq_true, decide_eq_true_eq] at h4
        obtain ⟨rfl, rfl⟩ := h4
        obtain ⟨f, fd, ps, q1, q2, q3, q4⟩ := hX.fns _ _ _ ey
        obtain ⟨g1, g2, g3⟩ := hX.gl h1
        have st := chkEs_star h2
        cases xs with
        | nil => cases h3
        | cons e0 er =>
          rw [List.all_cons, Bool.and_eq_true] at st
          rw [ev]
          exact both (pd_call q1 (fun ρ ds e => evs_len h2 e) hX.room g1 q2 q3 q4 (sndEs es hX h2) g2 (star_cons st.1) (star_any st.2)) rfl
      · cases h4
    · cases h
  | .blt f es, X, c, e, hX, h => by
    unfold chkE at h
    split at h
    · rename_i x p xs pos
      simp only [Bool.and_eq_true, decide_eq_true_eq] at h
      obtain ⟨⟨⟨⟨rfl, h1⟩, hb⟩, h2⟩, h3⟩ := h
      obtain ⟨g1, g2, g3⟩ := hX.gl h1
      have st := chkEs_star h2
      cases xs with
      | nil => cases h3
      | cons e0 er =>
        rw [List.all_cons, Bool.and_eq_true] at st
        rw [ev]
        exact both (pd_bf hX.calm hX.units f g1 (hX.bn _ hb) (sndEs es hX h2) g3 g2 (star_cons st.1) (star_any st.2)) rfl
    · cases h
  | .m1 f a b, X, c, e, hX, h => by
    unfold chkE at h
    split at h
    · simp only [Bool.and_eq_true, decide_eq_true_eq] at h
      obtain ⟨⟨⟨⟨⟨rfl, h1⟩, h2⟩, hs⟩, h3⟩, h4⟩ := h
      rw [ev]
      exact both (pd_me f (sndE a hX h3).1 (sndE b hX h4).1 (star_cons hs) (base_of h2) h1) rfl
    · cases h
  | .m0 f a, X, c, e, hX, h => by
    unfold chkE at h
    split at h
    · simp only [Bool.and_eq_true, decide_eq_true_eq] at h
      obtain ⟨⟨⟨rfl, h1⟩, h2⟩, h3⟩ := h
      rw [ev]
      exact both (pd_m0 f (sndE a hX h3).1 (base_of h2) h1) rfl
    · cases h
  | .rev a, X, c, e, hX, h => by
    unfold chkE at h
    split at h
    · simp only [Bool.and_eq_true, decide_eq_true_eq] at h
      obtain ⟨rfl, h1⟩ := h
      rw [ev]
      exact both (pd_rev (sndE a hX h1).1) rfl
    · cases h
  | .mnin i m, X, c, e, hX, h => by
    unfold chkE at h
    split at h
    · simp only [Bool.and_eq_true, decide_eq_true_eq] at h
      obtain ⟨⟨h1, h2⟩, h3⟩ := h
      obtain ⟨q1, q2, q3⟩ := hX.vis h2
      rw [ev]
      exact ⟨pd_mnin (tb := True) hX.units (by rw [hX.N]; exact h1) q1 q2 q3 (sndE m hX h3).1, fun _ => pdt_mnin hX.units (by rw [hX.N]; exact h1) q1 q2 q3 (sndE m hX h3).1⟩
    · cases h
  | .mget i a b, X, c, e, hX, h => by
    unfold chkE at h
    split at h
    · simp only [Bool.and_eq_true, decide_eq_true_eq] at h
      obtain ⟨⟨⟨⟨⟨⟨⟨rfl, h1⟩, h2⟩, h3⟩, h4⟩, h5⟩, h6⟩, h7⟩ := h
      obtain ⟨q1, q2, q3⟩ := hX.vis h2
      rw [ev]
      rename_i x p ap ea eb pos
      have hst : starEach [ea, eb] X.env = [(false, eval ea X.env), (false, eval eb X.env)] := by rw [star_cons h4, star_cons h5]; rfl
      exact both (pd_mget hX.units (by rw [hX.N]; exact h1) q1 q2 q3 (sndE a hX h6).1 (sndE b hX h7).1 ⟨rfl, by rw [hst]; rfl, h3, by rw [hst]; rfl⟩) rfl
    · cases h
  | .mat i m, X, c, e, hX, h => by
    unfold chkE at h
    split at h
    · simp only [Bool.and_eq_true, decide_eq_true_eq] at h
      obtain ⟨⟨⟨h1, h2⟩, h3⟩, h4⟩ := h
      obtain ⟨q1, q2, q3⟩ := hX.vis h2
      rw [ev]
      exact both (pd_mat hX.units (by rw [hX.N]; exact h1) q1 q2 q3 (sndE m hX h4).1 (ix_of h3)) rfl
    · cases h
  | .isi T a, X, c, e, hX, h => by
    unfold chkE at h
    split at h
    · simp only [Bool.and_eq_true, decide_eq_true_eq] at h
      obtain ⟨⟨⟨⟨⟨⟨⟨rfl, h1⟩, hb⟩, rfl⟩, h2⟩, hb2⟩, hs⟩, h3⟩ := h
      obtain ⟨g1, g2, g3⟩ := hX.gl h1
      obtain ⟨f1, f2, f3⟩ := hX.gl h2
      rw [ev]
      exact both (pd_isi g1 (hX.bn _ hb) f1 (hX.bn _ hb2) T.boot f3 f2 (sndE a hX h3).1 (star_cons hs)) rfl
    · cases h
  | .isi2 T U a, X, c, e, hX, h => by
    unfold chkE at h
    split at h
    · simp only [Bool.and_eq_true, decide_eq_true_eq] at h
      obtain ⟨⟨⟨⟨⟨⟨⟨⟨⟨⟨rfl, h1⟩, hb⟩, rfl⟩, h2⟩, hb2⟩, rfl⟩, h4⟩, hb3⟩, hs⟩, h3⟩ := h
      obtain ⟨g1, g2, g3⟩ := hX.gl h1
      obtain ⟨f1, f2, f3⟩ := hX.gl h2
      obtain ⟨e1, e2, e3⟩ := hX.gl h4
      rw [ev]
      exact both (pd_isi2 g1 (hX.bn _ hb) f1 (hX.bn _ hb2) T.boot f3 f2 e1 (hX.bn _ hb3) U.boot e3 e2 (sndE a hX h3).1 (star_cons hs)) rfl
    · cases h
  | .comp elt t it d, X, c, e, hX, h => by
    unfold chkE at h
    split at h
    · rename_i ee tg ei ifs as scope pos
      simp only [Bool.and_eq_true, decide_eq_true_eq] at h
      obtain ⟨⟨⟨⟨⟨⟨⟨rfl, h1⟩, h2⟩, h3⟩, h4⟩, h5⟩, h6⟩, h7⟩ := h
      rw [ev]
      refine both (pd_of_l ?_) rfl
      have := pdl_comp (pos := pos) (own := ownOf c t) (fun i hi => by rw [ownOf_slots]; exact hi) hX.calm hX.nd' (sndI it hX h5) (hX.blkOk h2) (fun s H C cl fp => sndT t (hX.blk h1 s H C cl fp) h4) (fun s H C cl fp => sndC d (hX.blk h1 s H C cl fp) h6) (fun s H C cl fp => (sndE elt (hX.blk h1 s H C cl fp) h7).1) (fold_of h3)
      rw [ownOf_slots] at this
      exact this
    · cases h
  | .bor is m, X, c, e, hX, h => by
    unfold chkE at h
    rw [Bool.and_eq_true] at h
    rw [ev]
    exact ⟨pd_bor is (sndE m hX h.1).1, fun _ => pdt_bor is ((sndE m hX h.1).2 h.2)⟩
  | .itm i m, X, c, e, hX, h => by
    unfold chkE at h
    split at h
    · simp only [Bool.and_eq_true, decide_eq_true_eq] at h
      obtain ⟨⟨⟨h1, h2⟩, h3⟩, h4⟩ := h
      obtain ⟨q1, q2, q3⟩ := hX.vis h2
      rw [ev]
      exact both (pd_itm (by rw [hX.N]; exact h1) q1 q2 q3 (sndE m hX h4).1 (ix_of h3)) rfl
    · cases h
  | .dic ps, X, c, e, hX, h => by
    unfold chkE at h
    split at h
    · simp only [Bool.and_eq_true, Bool.not_eq_true', decide_eq_true_eq] at h
      obtain ⟨q1, q2, q3⟩ := sndP ps (pos := _) hX h.1.1
      rw [ev]
      exact both (pd_dic q1 q2 q3 (fun z => by rw [z] at h; cases h.1.2) h.2) rfl
    · cases h
  | .dix a b, X, c, e, hX, h => by
    unfold chkE at h
    split at h
    · simp only [Bool.and_eq_true] at h
      rw [ev]
      exact both (pd_dix hX.units (sndE a hX h.1.2).1 (sndE b hX h.2).1 (ix_of h.1.1)) rfl
    · cases h
  | .gdx j b, X, c, e, hX, h => by
    unfold chkE at h
    split at h
    · simp only [Bool.and_eq_true] at h
      obtain ⟨⟨⟨h1, h2⟩, h3⟩, h4⟩ := h
      split at h2
      · rename_i y ps ey
        simp only [decide_eq_true_eq] at h2
        subst h2
        obtain ⟨p, q1, q2⟩ := hX.gdd _ _ _ ey
        obtain ⟨g1, g2, g3⟩ := hX.gl h1
        rw [ev, ey]
        exact both (pd_gdx g1 q1 g2 q2 (sndE b hX h4).1 (ix_of h3)) rfl
      · cases h2
    · cases h
  | .dgt a b d, X, c, e, hX, h => by
    unfold chkE at h
    split at h
    · rename_i ea nm ap eb ed pos
      simp only [Bool.and_eq_true, decide_eq_true_eq] at h
      obtain ⟨⟨⟨⟨⟨⟨⟨rfl, h1⟩, h2⟩, h3⟩, h4⟩, h5⟩, h6⟩, h7⟩ := h
      rw [ev]
      have hst : starEach [eb, ed] X.env = [(false, eval eb X.env), (false, eval ed X.env)] := by rw [star_cons h3, star_cons h4]; rfl
      exact both (pd_dgt hX.units (sndE a hX h5).1 (sndE b hX h6).1 (sndE d hX h7).1 ⟨base_of h2, by rw [hst]; rfl, h1, by rw [hst]; rfl⟩) rfl
    · cases h
  | .sortM i, X, c, e, hX, h => by
    unfold chkE at h
    split at h
    · simp only [Bool.and_eq_true, decide_eq_true_eq] at h
      obtain ⟨⟨⟨⟨rfl, h1⟩, h2⟩, h3⟩, h4⟩ := h
      obtain ⟨g1, g2, g3⟩ := hX.gl h1
      obtain ⟨q1, q2, q3⟩ := hX.vis h4
      rw [ev]
      exact both (pd_sortM hX.calm hX.units g1 (hX.bn _ h2) (by rw [hX.N]; exact h3) q1 q2 q3) rfl
    · cases h
  | .stp a lo st, X, c, e, hX, h => by
    unfold chkE at h
    split at h
    · simp only [Bool.and_eq_true, decide_eq_true_eq] at h
      obtain ⟨⟨rfl, h1⟩, h2⟩ := h
      rw [ev]
      exact both (pd_stp (sndE a hX h1).1 (sndE lo hX h2).1) rfl
    · cases h
  | .negE a, X, c, e, hX, h => by
    unfold chkE at h
    split at h
    · rw [ev]
      exact both (pd_un ud_neg (sndE a hX h).1) rfl
    · cases h
  | .tdl i, X, c, e, hX, h => by
    unfold chkE at h
    split at h
    · simp only [Bool.and_eq_true, decide_eq_true_eq] at h
      obtain ⟨⟨⟨h0, rfl⟩, h1⟩, h2⟩ := h
      obtain ⟨C, T, _⟩ := hX.tab h0
      obtain ⟨q1, q2, q3⟩ := hX.vis h2
      rw [ev]
      exact both (pd_tdl T.tx (by rw [hX.N]; exact h1) q1 q2 q3) rfl
    · cases h
  | .tld i, X, c, e, hX, h => by
    unfold chkE at h
    split at h
    · simp only [Bool.and_eq_true, decide_eq_true_eq] at h
      obtain ⟨⟨⟨h0, rfl⟩, h1⟩, h2⟩ := h
      obtain ⟨C, T, _⟩ := hX.tab h0
      obtain ⟨q1, q2, q3⟩ := hX.vis h2
      rw [ev]
      exact both (pd_tld T.tx (by rw [hX.N]; exact h1) q1 q2 q3) rfl
    · cases h
  | .tlt i, X, c, e, hX, h => by
    unfold chkE at h
    split at h
    · simp only [Bool.and_eq_true, decide_eq_true_eq] at h
      obtain ⟨⟨⟨⟨h0, rfl⟩, rfl⟩, h1⟩, h2⟩ := h
      obtain ⟨C, T, _⟩ := hX.tab h0
      obtain ⟨q1, q2, q3⟩ := hX.vis h2
      rw [ev]
      exact both (pd_tlt T.tx (by rw [hX.N]; exact h1) q1 q2 q3) rfl
    · cases h
  | .rowT i, X, c, e, hX, h => by
    unfold chkE at h
    split at h
    · simp only [Bool.and_eq_true, decide_eq_true_eq] at h
      obtain ⟨⟨⟨⟨h0, rfl⟩, h1⟩, h2⟩, h3⟩ := h
      obtain ⟨C, T, _⟩ := hX.tab h0
      obtain ⟨q1, q2, q3⟩ := hX.vis h2
      rw [ev]
      exact both (pd_row T hX.room (by rw [hX.N]; exact h1) q1 q2 q3 h3) rfl
    · cases h
  | .ovrT i, X, c, e, hX, h => by
    unfold chkE at h
    split at h
    · simp only [Bool.and_eq_true, decide_eq_true_eq] at h
      obtain ⟨⟨⟨⟨h0, rfl⟩, h1⟩, h2⟩, h3⟩ := h
      obtain ⟨C, T, _⟩ := hX.tab h0
      obtain ⟨q1, q2, q3⟩ := hX.vis h2
      rw [ev]
      exact both (pd_ovr T hX.room (by rw [hX.N]; exact h1) q1 q2 q3 h3) rfl
    · cases h
  | .comT i, X, c, e, hX, h => by
    unfold chkE at h
    split at h
    · simp only [Bool.and_eq_true, decide_eq_true_eq] at h
      obtain ⟨⟨⟨⟨h0, rfl⟩, h1⟩, h2⟩, h3⟩ := h
      obtain ⟨C, T, _⟩ := hX.tab h0
      obtain ⟨q1, q2, q3⟩ := hX.vis h2
      rw [ev]
      exact both (pd_com T hX.room (by rw [hX.N]; exact h1) q1 q2 q3 h3) rfl
    · cases h
  | .finT i a, X, c, e, hX, h => by
    unfold chkE at h
    split at h
    · simp only [Bool.and_eq_true, decide_eq_true_eq, Bool.not_eq_true'] at h
      obtain ⟨⟨⟨⟨⟨⟨⟨hnf, h0⟩, rfl⟩, h1⟩, h2⟩, h3⟩, h4⟩, h5⟩ := h
      obtain ⟨C, T, _⟩ := hX.tab h0
      obtain ⟨q1, q2, q3⟩ := hX.vis h2
      rw [ev]
      exact both (pd_fin T hnf hX.room (by rw [hX.N]; exact h1) q1 q2 q3 (sndE a hX h5).1 (star_cons h4) h3) rfl
    · cases h
  | .newC a, X, c, e, hX, h => by
    unfold chkE at h
    split at h
    · simp only [Bool.and_eq_true, decide_eq_true_eq] at h
      obtain ⟨⟨⟨⟨⟨⟨h0, rfl⟩, rfl⟩, h1⟩, h3⟩, h4⟩, h5⟩ := h
      obtain ⟨C, T, _⟩ := hX.tab h0
      rw [ev]
      exact both (pd_newC T hX.room (hX.gl h1).1 (sndE a hX h5).1 (star_cons h4) h3) rfl
    · cases h
  | .newF a b, X, c, e, hX, h => by
    unfold chkE at h
    split at h
    · simp only [Bool.and_eq_true, decide_eq_true_eq, Bool.not_eq_true'] at h
      obtain ⟨⟨⟨⟨⟨⟨⟨⟨⟨hnf, h0⟩, rfl⟩, rfl⟩, h1⟩, h3⟩, h4⟩, h6⟩, h5⟩, h7⟩ := h
      obtain ⟨C, T, _⟩ := hX.tab h0
      rw [ev]
      exact both (pd_newF T hnf hX.room (hX.gl h1).1 (sndE a hX h5).1 (star_cons h4) (sndE b hX h7).1 (star_cons h6) h3) rfl
    · cases h
  | .rpl y z a, X, c, e, hX, h => by
    unfold chkE at h
    cases h
  | .fgt a, X, c, e, hX, h => by
    unfold chkE at h
    rw [Bool.and_eq_true] at h
    rw [ev]
    exact both (pd_fgt (sndE a hX h.2).1) h.1
  | .srtS a, X, c, e, hX, h => by
    unfold chkE at h
    split at h
    · simp only [Bool.and_eq_true, decide_eq_true_eq] at h
      obtain ⟨⟨⟨⟨⟨⟨⟨rfl, rfl⟩, h1⟩, h2⟩, h3⟩, h4⟩, h5⟩, h6⟩ := h
      rw [ev]
      exact both (pd_srtS hX.calm hX.units (hX.gl h1).1 (hX.bn _ h3) (hX.gl h2).1 (hX.bn _ h4) (sndE a hX h6).1 (star_cons h5)) rfl
    · cases h
  | .addB a b, X, c, e, hX, h => by
    unfold chkE at h
    split at h
    · simp only [Bool.and_eq_true] at h
      rw [ev]
      exact both (pd_addB (sndE a hX h.1.2).1 (sndE b hX h.2).1 (star_cons h.1.1)) rfl
    · cases h
  | .cntB a b, X, c, e, hX, h => by
    unfold chkE at h
    split at h
    · simp only [Bool.and_eq_true, decide_eq_true_eq] at h
      obtain ⟨⟨⟨⟨⟨rfl, h1⟩, h2⟩, h3⟩, h4⟩, h5⟩ := h
      rw [ev]
      exact both (pd_cntB hX.units (sndE a hX h4).1 (sndE b hX h5).1 (star_cons h3) (base_of h2) h1) rfl
    · cases h
theorem sndP : ∀ (ps : MPs) {X : Cx} {c : SC} {ks : List (Option Expr)} {vs : List Expr} {pos : Pos}, Cok S G k X c → chkP S c ps ks vs = true → PPs X pos ks vs (trsD X.kf (evP S G ps)) ∧ ks.all (·.isSome) = true ∧ ks.length = vs.length
  | .nil, X, c, ks, vs, pos, hX, h => by
    unfold chkP at h
    cases ks with
    | nil => cases vs with
      | nil => rw [evP]; exact ⟨pps_nil, rfl, rfl⟩
      | cons _ _ => cases h
    | cons _ _ => cases h
  | .cons k v r, X, c, ks, vs, pos, hX, h => by
    unfold chkP at h
    split at h
    · simp only [Bool.and_eq_true] at h
      obtain ⟨q1, q2, q3⟩ := sndP r (pos := pos) hX h.2
      rw [evP]
      refine ⟨pps_cons (sndE k hX h.1.1).1 (sndE v hX h.1.2).1 q1, ?_, by rw [List.length_cons, List.length_cons, q3]⟩
      rw [List.all_cons, q2]
      rfl
    · cases h
theorem sndEs : ∀ (ms : MEs) {X : Cx} {c : SC} {es : List Expr}, Cok S G k X c → chkEs S c ms es = true → PA X es (tDA X.kf (evs S G ms))
  | .nil, X, c, es, hX, h => by
    unfold chkEs at h
    cases es with
    | nil => rw [evs]; exact pda_nil
    | cons _ _ => cases h
  | .cons m ms, X, c, es, hX, h => by
    unfold chkEs at h
    split at h
    · simp only [Bool.and_eq_true] at h
      rw [evs]
      exact pda_cons (sndE m hX h.1.2).1 (sndEs ms hX h.2) (star_cons h.1.1)
    · cases h
theorem sndAnd : ∀ (ms : MEs) {X : Cx} {c : SC} {es : List Expr} {pos : Pos}, Cok S G k X c → chkEs S c ms es = true → ms.tst = true → ms ≠ .nil → PE X (.BoolOp .And es pos) (tD X.kf (evAnd S G ms)) ∧ PW X (.BoolOp .And es pos) (tDT X.kf (ft (evAnd S G ms)))
  | .nil, X, c, es, pos, hX, h, ht, hn => absurd rfl hn
  | .cons m .nil, X, c, es, pos, hX, h, ht, hn => by
    unfold chkEs at h
    split at h
    · rename_i e r
      simp only [Bool.and_eq_true] at h
      have : r = [] := by
        have h2 := h.2
        unfold chkEs at h2
        cases r <;> first | rfl | cases h2
      subst this
      rw [evAnd]
      have tm : m.tst = true := by
        unfold MEs.tst at ht
        rw [Bool.and_eq_true] at ht
        exact ht.1
      exact ⟨pe_one (sndE m hX h.1.2).1, pw_and1 ((sndE m hX h.1.2).2 tm)⟩
    · cases h
  | .cons m (.cons m' ms), X, c, es, pos, hX, h, ht, hn => by
    unfold chkEs at h
    split at h
    · rename_i e r
      simp only [Bool.and_eq_true] at h
      rw [evAnd]
      unfold MEs.tst at ht
      rw [Bool.and_eq_true] at ht
      have ih := sndAnd (.cons m' ms) (pos := pos) hX h.2 ht.2 (fun z => nomatch z)
      cases r with
      | nil =>
        have h2 := h.2
        unfold chkEs at h2
        cases h2
      | cons e' r' => exact ⟨pd_and (sndE m hX h.1.2).1 ih.1, pdw_and ((sndE m hX h.1.2).2 ht.1) ih.2⟩
    · cases h
theorem sndOr : ∀ (ms : MEs) {X : Cx} {c : SC} {es : List Expr} {pos : Pos}, Cok S G k X c → chkEs S c ms es = true → ms.tst = true → ms ≠ .nil → PE X (.BoolOp .Or es pos) (tD X.kf (evOr S G ms)) ∧ PW X (.BoolOp .Or es pos) (tDT X.kf (ft (evOr S G ms)))
  | .nil, X, c, es, pos, hX, h, ht, hn => absurd rfl hn
  | .cons m .nil, X, c, es, pos, hX, h, ht, hn => by
    unfold chkEs at h
    split at h
    · rename_i e r
      simp only [Bool.and_eq_true] at h
      have : r = [] := by
        have h2 := h.2
        unfold chkEs at h2
        cases r <;> first | rfl | cases h2
      subst this
      rw [evOr]
      have tm : m.tst = true := by
        unfold MEs.tst at ht
        rw [Bool.and_eq_true] at ht
        exact ht.1
      exact ⟨pe_one (sndE m hX h.1.2).1, pw_or1 ((sndE m hX h.1.2).2 tm)⟩
    · cases h
  | .cons m (.cons m' ms), X, c, es, pos, hX, h, ht, hn => by
    unfold chkEs at h
    split at h
    · rename_i e r
      simp only [Bool.and_eq_true] at h
      rw [evOr]
      unfold MEs.tst at ht
      rw [Bool.and_eq_true] at ht
      have ih := sndOr (.cons m' ms) (pos := pos) hX h.2 ht.2 (fun z => nomatch z)
      cases r with
      | nil =>
        have h2 := h.2
        unfold chkEs at h2
        cases h2
      | cons e' r' => exact ⟨pd_or (sndE m hX h.1.2).1 ih.1, pdw_or ((sndE m hX h.1.2).2 ht.1) ih.2⟩
    · cases h
theorem sndO : ∀ (m : MO) {X : Cx} {c : SC} {o : Option Expr}, Cok S G k X c → chkO S c m o = true → PO X o (tDO X.kf (evO S G m))
  | .none, X, c, o, hX, h => by
    unfold chkO at h
    cases o with
    | none => rw [evO]; exact pdo_none
    | some _ => cases h
  | .some m, X, c, o, hX, h => by
    unfold chkO at h
    split at h
    · rw [evO]
      exact pdo_some (sndE m hX h).1
    · cases h
theorem sndC : ∀ (m : MO) {X : Cx} {c : SC} {es : List Expr}, Cok S G k X c → chkC S c m es = true → PTs X es (tDT X.kf (evC S G m))
  | .none, X, c, es, hX, h => by
    unfold chkC at h
    cases es with
    | nil => rw [evC]; exact pts_yes
    | cons _ _ => cases h
  | .some m, X, c, es, hX, h => by
    unfold chkC at h
    split at h
    · rw [Bool.and_eq_true] at h
      rw [evC]
      exact pts_d ((sndE m hX h.1).2 h.2)
    · cases h
theorem sndI : ∀ (m : MI) {X : Cx} {c : SC} {tg e : Expr}, Cok S G k X c → chkI S c tg m e = true → PI X tg e (iD X.kf (evI S G m))
  | .dat m, X, c, tg, e, hX, h => by
    unfold chkI at h
    rw [evI]
    exact pid_data (sndE m hX h).1
  | .rng1 a, X, c, tg, e, hX, h => by
    unfold chkI at h
    split at h
    · simp only [Bool.and_eq_true, decide_eq_true_eq] at h
      obtain ⟨⟨⟨⟨rfl, h1⟩, hb⟩, hs⟩, h2⟩ := h
      obtain ⟨g1, g2, g3⟩ := hX.gl h1
      rw [evI]
      exact pid_rng1 g1 (hX.bn _ hb) (pda_cons (sndE a hX h2).1 pda_nil (star_cons hs)) (star_cons hs)
    · cases h
  | .rng2 a b, X, c, tg, e, hX, h => by
    unfold chkI at h
    split at h
    · simp only [Bool.and_eq_true, decide_eq_true_eq] at h
      obtain ⟨⟨⟨⟨⟨⟨rfl, h1⟩, hb⟩, hs⟩, h2⟩, hs'⟩, h3⟩ := h
      obtain ⟨g1, g2, g3⟩ := hX.gl h1
      rw [evI]
      exact pid_rng2 g1 (hX.bn _ hb) (pda_cons (sndE a hX h2).1 (pda_cons (sndE b hX h3).1 pda_nil (star_cons hs')) (star_cons hs)) (by rw [star_cons hs, star_cons hs']; rfl) (star_cons hs')
    · cases h
  | .zip a b, X, c, tg, e, hX, h => by
    unfold chkI at h
    split at h
    · simp only [Bool.and_eq_true, decide_eq_true_eq] at h
      obtain ⟨⟨⟨⟨⟨⟨⟨rfl, ht⟩, h1⟩, hb⟩, hs⟩, h2⟩, hs'⟩, h3⟩ := h
      obtain ⟨g1, g2, g3⟩ := hX.gl h1
      rw [evI]
      cases tg with
      | Tuple _ _ _ => exact pid_zip g1 (hX.bn _ hb) (pda_cons (sndE a hX h2).1 (pda_cons (sndE b hX h3).1 pda_nil (star_cons hs')) (star_cons hs)) (star_cons hs) (by rw [star_cons hs']; rfl)
      | _ => cases ht
    · cases h
  | .keys i, X, c, tg, e, hX, h => by
    unfold chkI at h
    split at h
    · simp only [Bool.and_eq_true, decide_eq_true_eq] at h
      obtain ⟨q1, q2, q3⟩ := hX.vis h.2
      rw [evI]
      exact pid_keys (by rw [hX.N]; exact h.1) q1 q2 q3
    · cases h
  | .enumL a, X, c, tg, e, hX, h => by
    unfold chkI at h
    split at h
    · simp only [Bool.and_eq_true, decide_eq_true_eq] at h
      obtain ⟨⟨⟨⟨⟨rfl, ht⟩, h1⟩, hb⟩, hs⟩, h2⟩ := h
      obtain ⟨g1, g2, g3⟩ := hX.gl h1
      rw [evI]
      cases tg with
      | Tuple _ _ _ => exact pid_enumA g1 (hX.bn _ hb) (pda_cons (sndE a hX h2).1 pda_nil (star_cons hs)) (star_cons hs)
      | _ => cases ht
    · cases h
end
end
end DL
end
section
/-! where a token is out: statements and values that want one -/
namespace DL
open PySem PySem.Spec L2
open PyProof.Rows hiding St
/-- what follows, the tokens not fewer -/
theorem thnK {α : Type} {t : Sem α} {Q Q' : α → Shared → Prop} {M : Model} {A : Around} {E : Value → Shared → Prop} {s : Shared} (h0 : 1 ≤ s.toks) (h : wpAny M A t Q E s) (hQ : ∀ a s', 1 ≤ s'.toks → Q a s' → Q' a s') : wpAny M A t Q' E s :=
  wpAny_mono (PySem.wpAny_toks h) (fun a s' q => hQ a s' (Nat.le_trans h0 q.1) q.2) fun _ _ z => z.2
section
variable {X : Cx}
theorem pet_callTy {T : String} {x : Str} {e : Expr} {p pos : Pos} {r : List V → Hp → VK → Prop} {te : TE} (hc : CallR X (.type T) r) (hg : Gl X x) (hm : X.mg x = none) (hv : bootBuiltins x = some (.type T)) (he : PET X e te) (hn : x ≠ "__name__") (hdb : (x == ("__debug__" : Str)) = false)
    (hst : starEach [e] X.env = (false, eval e X.env) :: starEach [] X.env) (hpl : (backTo pos (starEach [] X.env)).any (·.1) = false) : PET X (.Call (.Name x p) [e] [] pos) (tCB r (tCons te tNil)) := fun pins s σ H Q h0 I h =>
  wpAny_Call_Name_kw (ld_blt I hg hm hv (PyProof.Rows.callWith_type1 (thn ((pat_cons he pat_nil hst) pos pins s σ H _ h0 I h) fun us s1 z => by
    obtain ⟨vs, H1, I1, r1, q1⟩ := z
    exact hc pins s1 σ H1 vs us Q I1 r1 q1) hst hpl) hn hdb)
theorem pst_set {i : Nat} {x : Str} {e : Expr} {te : TE} {p pos : Pos} (hN : X.N.Nodup) (hi : X.N[i]? = some x) (hx : Loc X.env.scope x) (he : PET X e te) (hs : swapsWith e (some (.Name x p)) pos.line X.env = pure false) (hf : X.fn x = true ∨ X.env.scope.names.lookup x = some .local) :
    PST X (.Assign [.Name x p] e pos) (tAsg te (gName i)) := fun pins s σ H D h0 I h =>
  wpAny_Assign_Name (thn (he pins s σ H _ h0 I h) fun v s1 z => by
    obtain ⟨y, H1, I1, r1, q1⟩ := z
    exact store_ok I1 hN hi hx r1 (fun s2 I2 => ⟨_, H1, I2, q1⟩) hf) hs
/-- for, its body wants a token -/
theorem pst_forK {tg iter : Expr} {body : List Stmt} {wi : TI} {g : TG} {tb : TS} {pos : Pos} (hp : PassesOwn (model X.prog X.w) X.A X.env X.xe) (hc : X.calm = true) (hi : PI X tg iter wi) (hg : PG X tg g) (hb : PSsT X body tb) (hs : ∀ x, foldedSetIterable iter X.env x = pure x) : PST X (.For tg iter body [] pos) (tFor wi g tb) := by
  intro pins s σ H D h0 I h
  refine wpAny_For (thnK h0 (hi.run pins s σ H _ I h) fun v sa ka ha => thnK ka ha fun itv sb kb hb' => ?_) hs
  obtain ⟨it, fp, tn, J, Hb, rfl, Ib, T, stb, fb, W, ⟨mm, w0⟩, turn⟩ := hb'
  have stay : ∀ {Hx : Hp}, (∀ b ∈ fp, Hx b = none) → ∀ b ∈ fp, FpOk X pins Hx b := fun hn b hbb => ⟨hn b hbb, (fb b hbb).2⟩
  refine codeAny_forLoop_any (fun n sx => 1 ≤ sx.toks ∧ ∃ j σx Hx, Inv X pins σx Hx sx ∧ tn j sx.heap ∧ (∀ b ∈ fp, Hx b = none) ∧ W j n σx Hx) (fun n sx z => ?_) mm ⟨kb, 0, σ, Hb, Ib, stb, fun b hbb => (fb b hbb).1, w0⟩
  obtain ⟨kx, j, σx, Hx, Ix, stx, frx, wx⟩ := z
  rcases turn j n σx Hx wx with ⟨stop, qn⟩ | ⟨go, N, hN, step⟩
  · refine wpAny_passesOwn hp (thn (T.done X rfl rfl rfl hc j pins sx σx Hx X.xe Ix (stay frx) stx stop) fun r sy z => ?_)
    obtain ⟨rfl, Iy⟩ := z
    exact wpAny_execs_nil ⟨σx, Hx, Iy, qn⟩
  · refine wpAny_passesOwn hp (thnK kx (T.item X rfl rfl rfl hc j pins sx σx Hx X.xe Ix (stay frx) stx go) fun r sy ky z => ?_)
    obtain ⟨u, rfl, hy⟩ := z
    refine wpAny_passesOwn hp (thnK ky hy fun _ sz kz z => ?_)
    obtain ⟨y, Hz, Iz, rz, yz, stz, frz⟩ := z
    have Iz' := Iz.pinned (stay frz) (T.obj _ _ stz)
    refine wpAny_passesOwn hp (thnK kz (hg.run _ sz σx Hz y u _ Iz' rz (step y Hz yz)) fun _ s1 k1 z => ?_)
    obtain ⟨σ1, H1, I1, q1⟩ := z
    refine wpAny_passesOwn hp (thnK k1 (hb _ s1 σ1 H1 _ k1 I1 q1) fun fl s2 k2 z => ?_)
    have next : ∀ {σ2 : St} {H2 : Hp}, Inv X (pins ++ pinsAt fp sz.heap) σ2 H2 s2 → N σ2 H2 → ∃ m, m < n ∧ 1 ≤ s2.toks ∧ ∃ j σ' H', Inv X pins σ' H' s2 ∧ tn j s2.heap ∧ (∀ b ∈ fp, H' b = none) ∧ W j m σ' H' := fun {σ2 H2} I2 n2 => by
      obtain ⟨m', hm, w2⟩ := hN σ2 H2 n2
      have pk : ∀ b ∈ fp, ∀ o, sz.heap.get? b = some o → s2.heap.get? b = some o ∧ H2 b = none := fun b hbb o e =>
        have z := I2.pin (b, o) (List.mem_append_right _ (List.mem_append_right _ (mem_pinsAt hbb e)))
        ⟨z.1, z.2.1⟩
      refine ⟨m', hm, k2, j + 1, σ2, H2, I2.unpinned, T.keep _ _ _ stz fun b hbb o e => (pk b hbb o e).1, fun b hbb => ?_, w2⟩
      obtain ⟨o, e, _⟩ := T.obj _ _ stz b hbb
      exact (pk b hbb o e).2
    match fl, z with
    | .next, ⟨σ2, H2, I2, n2⟩ => exact next I2 n2
    | .cont, ⟨σ2, H2, I2, n2⟩ => exact next I2 n2
    | .brk, ⟨σ2, H2, I2, q2⟩ => exact ⟨σ2, H2, I2.unpinned, q2⟩
    | .ret v, ⟨y2, σ2, H2, I2, r2, q2⟩ => exact ⟨y2, σ2, H2, I2.unpinned, r2, q2⟩
end
end DL
end
section
/-! a list comprehension whose element wants a token -/
namespace DL
open PySem PySem.Spec L2
open PyProof.Rows hiding St
section
variable {X : Cx}
theorem thnZ {α : Type} {t : Sem α} {Q Q' : α → Shared → Prop} {M : Model} {A : Around} {E : Value → Shared → Prop} {s : Shared} (h0 : 1 ≤ s.toks) (h : wpAny M A t Q (fun _ _ => False) s) (hQ : ∀ a s', 1 ≤ s'.toks → Q a s' → Q' a s') : wpAny M A t Q' E s :=
  wpAny_mono (PySem.wpAny_toks h) (fun a s' q => hQ a s' (Nat.le_trans h0 q.1) q.2) fun _ _ z => z.2.elim
theorem pet_lcK {elt tg iter : Expr} {scope : Scope} {own : List (Str × Nat)} {pos : Pos} {wi : TI} {g : TG} {tt : TT} {te : TE} (hc : X.calm = true) (hN : X.N.Nodup) (hi : PI X tg iter wi) (ok : BlkOk X.N X.env.scope scope own)
    (hg : ∀ (s : Shared) (H : Hp) (C : Addr) (cl : List (Str × Addr)) (fp : List Addr), PG (X.blk s H scope (compEnvC scope cl C X.env) fp) tg g) (ht : ∀ (s : Shared) (H : Hp) (C : Addr) (cl : List (Str × Addr)) (fp : List Addr), PTs (X.blk s H scope (compEnvC scope cl C X.env) fp) [] tt) (he : ∀ (s : Shared) (H : Hp) (C : Addr) (cl : List (Str × Addr)) (fp : List Addr), PET (X.blk s H scope (compEnvC scope cl C X.env) fp) elt te) (hs : ∀ x, foldedSetIterable iter X.env x = pure x) :
    PET X (.ListComp elt [⟨tg, iter, [], 0⟩] scope pos) (tLc wi g tt te (own.map (·.2))) := by
  intro pins s σ H Q h0 I h
  rw [eval_ListComp]
  have frees : ∀ y ∈ scope.names, y.2 = .free → ∃ c, X.env.cells.lookup y.1 = some c := fun y hy e => (ok.free y hy e).elim (fun z => I.ok.has _ (.inl z)) fun z => I.ok.has _ (.inr z)
  refine wpAny_comprehension_free (use := none) rfl hs (closure_ok frees) ok.kind (fun y hy e => by rw [ok.uniq y hy, e]) (thnK h0 (hi.run pins s σ H _ I h) fun xv sa ka hx => thnK ka hx fun itv sb kb hb => ?_)
  obtain ⟨it, fp, tn, J, Hb, rfl, Ib, T, stb, fb, q⟩ := hb
  refine wpAny_newObj_type (newEnv_comp ?_) (by show 0 ≤ sizeLine; decide)
  generalize hL : sb.heap.objs.size = L
  have nL : Hb L = none := Ib.hok.fresh (Nat.le_of_eq hL)
  obtain ⟨W, ⟨mm, w0⟩, turn⟩ := q L nL
  generalize hsc : ({ sb with heap := sb.heap.push { cls := .type "list", data := .seq ([] : List Value).toArray } } : Shared) = sc
  have kc : 1 ≤ sc.toks := by rw [← hsc]; exact kb
  have Ic : Inv X pins σ (upd Hb L (.lst [])) sc := by
    rw [← hsc]
    exact Ib.laid (t' := sb.toks) (fun b o e => Heap.get?_push_of_some _ e) (Nat.le_of_eq hL) ⟨Nat.zero_le _, [], 0, .nil, by rw [← hL]; exact Heap.get?_push_size _ rfl⟩
  have hpc : sc.heap = sb.heap.push { cls := .type "list", data := .seq ([] : List Value).toArray } := by rw [← hsc]
  have fc : ∀ b ∈ fp, FpOk X pins (upd Hb L (.lst [])) b ∧ b < sc.heap.objs.size := fun b hb => by
    obtain ⟨o, e, _⟩ := T.obj _ _ stb b hb
    have lt := Heap.lt_size e
    refine ⟨⟨?_, (fb b hb).2⟩, by rw [hpc, Heap.size_push]; exact Nat.lt_succ_of_lt lt⟩
    rw [upd_ne (by rw [← hL]; exact Nat.ne_of_lt lt)]
    exact (fb b hb).1
  have stc : tn 0 sc.heap := T.keep _ _ _ stb fun b _ o e => by rw [hpc]; exact Heap.get?_push_of_some _ e
  have Id := block_start Ic ok hN fc
  have pg := hg sc (upd Hb L (.lst [])) sc.heap.objs.size (cellsFrom (sc.heap.objs.size + 1) scope.names (cloFrom X.env.cells scope.names [])) fp
  have pt := ht sc (upd Hb L (.lst [])) sc.heap.objs.size (cellsFrom (sc.heap.objs.size + 1) scope.names (cloFrom X.env.cells scope.names [])) fp
  have pe := he sc (upd Hb L (.lst [])) sc.heap.objs.size (cellsFrom (sc.heap.objs.size + 1) scope.names (cloFrom X.env.cells scope.names [])) fp
  have nfp : ∀ b ∈ fp, (upd Hb L (.lst [])) b = none := fun b hb => (fc b hb).1.1
  generalize hce : compEnvC scope (cellsFrom (sc.heap.objs.size + 1) scope.names (cloFrom X.env.cells scope.names [])) sc.heap.objs.size X.env = ce at Id pg pt pe
  have cL : ce.locals = sc.heap.objs.size := by subst hce; rfl
  generalize hHc : upd Hb L (.lst []) = Hc at Ic Id pg pt pe w0 nfp fc
  generalize hsd : ({ sc with heap := pushCells (sc.heap.push { cls := .type "dict", data := .dict #[] }) scope.names } : Shared) = sd at Id
  have kd : 1 ≤ sd.toks := by rw [← hsd]; exact kc
  have std : tn 0 sd.heap := T.keep _ _ _ stc fun b _ o e => by rw [← hsd]; exact pushCells_keeps _ _ _ _ (Heap.get?_push_of_some _ e)
  have stay : ∀ {σx : St} {Hx : Hp} {sx : Shared}, Inv (X.blk sc Hc scope ce fp) [] σx Hx sx → (∀ b ∈ fp, Hx b = none) → ∀ b ∈ fp, FpOk (X.blk sc Hc scope ce fp) [] Hx b := fun {σx Hx sx} Ix hn b hb =>
    ⟨hn b hb, (Ix.ok.exf b hb).1, Ix.ok.exfs b hb, .inl hb, fun x c e => (Ix.ok.exf b hb).2 x c e, fun p hp => by cases (show p ∈ ([] : List (Addr × Obj)) from hp)⟩
  have loop : codeAny (model X.prog X.w) X.A (.compLoop (.ListComp elt [⟨tg, iter, [], 0⟩] scope pos) 0 (.ref it) (.ref L) ce) (compPost (model X.prog X.w) X.A X.xe none (EP X pins σ Q) (.ref L) sc.heap.objs.size) sd := by
    refine compLoop_any (fun n sx => 1 ≤ sx.toks ∧ ∃ j Hx, Inv (X.blk sc Hc scope ce fp) [] (wipe σ (own.map (·.2))) Hx sx ∧ tn j sx.heap ∧ (∀ b ∈ fp, Hx b = none) ∧ W j n Hx) (fun n sx z => ?_) mm ⟨kd, 0, Hc, Id, std, nfp, w0⟩
    obtain ⟨kx, j, Hx, Ix, stx, nx, wx⟩ := z
    rcases turn j n Hx wx with ⟨stop, qq⟩ | ⟨go, Nx, hNx, step⟩
    · refine thnZ kx (T.done (X.blk sc Hc scope ce fp) rfl rfl rfl hc j [] sx _ Hx (fun _ _ => False) Ix (stay Ix nx) stx stop) fun r sy ky z => ?_
      obtain ⟨rfl, Iy⟩ := z
      have Iz : Inv X pins σ Hx sy := Ic.call' (ch := fp) Iy.os Iy.base Iy.hok Iy.bare fun b hb => ⟨(fc b hb).1.2.2.2.1, (fc b hb).1.2.1, (fc b hb).1.2.2.2.2.1, (fc b hb).1.2.2.2.2.2⟩
      have nC : Hx sc.heap.objs.size = none := by
        have z : Hx ce.locals = none := Iy.free
        rwa [cL] at z
      obtain ⟨m, hn, _⟩ := Iy.loc
      have hn : sy.heap.Ns ce.locals m := hn
      rw [cL] at hn
      obtain ⟨f0, f1, f2, f3, f4, f5⟩ := Ic.fpOk (Nat.le_refl _) nC
      exact ⟨m, hn, fun h'' sbb => ⟨.ref L, Hx, Iz.turned (t' := sy.toks) (fun b o hb e => (sbb.2 b hb).trans e) f0 f1 f3 f4 f5, rfl, qq⟩⟩
    · refine thnZ kx (T.item (X.blk sc Hc scope ce fp) rfl rfl rfl hc j [] sx _ Hx (fun _ _ => False) Ix (stay Ix nx) stx go) fun r sy ky z => ?_
      obtain ⟨u, rfl, hy⟩ := z
      refine thnZ ky hy fun _ sz kz z => ?_
      obtain ⟨x, Hz, Iz, rz, yz, stz, nz⟩ := z
      have Iz' := Iz.pinned (stay Iz nz) (T.obj _ _ stz)
      refine thnZ kz (pg.run _ sz _ Hz x u _ Iz' rz (step x Hz yz)) fun _ s1 k1 z => ?_
      obtain ⟨σ1, H1, I1, hw1, q1⟩ := z
      have fin : ∀ {sx : Shared} {Hx : Hp}, Inv (X.blk sc Hc scope ce fp) ([] ++ pinsAt fp sz.heap) σ1 Hx sx → Nx Hx → ∃ m, m < n ∧ ∃ i H', Inv (X.blk sc Hc scope ce fp) [] (wipe σ (own.map (·.2))) H' sx ∧ tn i sx.heap ∧ (∀ b ∈ fp, H' b = none) ∧ W i m H' := fun {sx Hx} Ix nxx => by
        obtain ⟨m', hm, w'⟩ := hNx Hx nxx
        have pk : ∀ b ∈ fp, ∀ o, sz.heap.get? b = some o → sx.heap.get? b = some o ∧ Hx b = none := fun b hb o e =>
          have y := Ix.pin (b, o) (List.mem_append_right _ (List.mem_append_right _ (mem_pinsAt hb e)))
          ⟨y.1, y.2.1⟩
        refine ⟨m', hm, j + 1, Hx, (Ix.unpinned (pins := [])).weak (by rw [← hw1, wipe_length]) (fun i v e => ?_), T.keep _ _ _ stz fun b hb o e => (pk b hb o e).1, fun b hb => ?_, w'⟩
        · rw [← hw1] at e
          exact (wipe_some e).1
        · obtain ⟨o, e, _⟩ := T.obj _ _ stz b hb
          exact (pk b hb o e).2
      refine thnZ k1 (pt.run _ s1 σ1 H1 _ I1 q1) fun b s4 k4 z => ?_
      obtain ⟨H4, I4, q4⟩ := z
      cases b with
      | false =>
        simp only [Bool.false_eq_true, if_false] at q4 ⊢
        obtain ⟨m, hm, z⟩ := fin I4 q4
        exact ⟨m, hm, k4, z⟩
      | true =>
        simp only [if_true] at q4 ⊢
        refine thnZ k4 (pe _ s4 σ1 H4 _ k4 I4 q4) fun v s2 k2 z => ?_
        obtain ⟨yv, H2, I2, r2, acc, hL2, hz2, nx2⟩ := z
        have ap := fun E => app_ok (X := X.blk sc Hc scope ce fp) (E := E) (Q := fun _ s3 => ∃ m, m < n ∧ ∃ i H', Inv (X.blk sc Hc scope ce fp) [] (wipe σ (own.map (·.2))) H' s3 ∧ tn i s3.heap ∧ (∀ b ∈ fp, H' b = none) ∧ W i m H') I2 hL2 hz2 r2 fun s3 I3 => fin I3 nx2
        exact thnK k2 (ap _) fun _ s3 k3 z => by
          obtain ⟨m, hm, z⟩ := z
          exact ⟨m, hm, k3, z⟩
  show codeAny _ _ (.compStart (.ListComp elt [⟨tg, iter, [], 0⟩] scope pos) 0 (.ref it) (.ref L) (compEnvC scope (cellsFrom (sc.heap.objs.size + 1) scope.names (cloFrom X.env.cells scope.names [])) sc.heap.objs.size X.env)) (compPost (model X.prog X.w) X.A X.xe none (EP X pins σ Q) (.ref L) sc.heap.objs.size) sd
  rw [hce]
  exact codeAny_compStart_list loop (T.self X.A 0 _ _ _ std loop)
end
end DL
end
section
namespace DL
open PySem PySem.Spec L2
open PyProof.Rows hiding St

/-! ### statements of the small language -/
mutual
inductive MS where
  | asg (t : Tg) (e : ME)
  | setL (i : Nat) (es : MEs)
  | setK (i : Nat) (a b : ME)
  | setC (i : Nat) (elt : ME) (t : Tg) (it : MI) (c : MO)
  | par (i j : Nat) (a b : ME)
  | ite (c : ME) (a b : MSs)
  | for_ (t : Tg) (it : MI) (body : MSs)
  | ret (e : ME)
  | retN
  | app (i : Nat) (e : ME)
  | extC (i : Nat) (elt : ME) (t : Tg) (it : MI) (c : MO)
  | try_ (body : MSs)
  | nvr
  | setM (i : Nat)
  | put (i : Nat) (a v : ME)
  | whl (n i : Nat) (body : MSs)
  | pop0 (t : Tg) (i : Nat)
  | forP (t : Tg) (j : Nat) (a : ME) (i : Nat) (body : MSs)
  | mov (i j : Nat)
  | setM1 (i : Nat) (a v : ME)
  | par3 (i j l : Nat) (a b d : ME)
  | setCL (i : Nat) (elt : ME) (t : Tg) (it : MI) (c : MO)
  | set2L (i j : Nat)
  | mkT (i : Nat) (e : ME)
  | layT (i : Nat) (e : ME)
  | bakT (i : Nat)
  | mk2T (i j : Nat) (e : ME)
  | tolT (i : Nat) (e d : ME) (b : MSs)
  | mkTs (i : Nat) (a : ME) (t : Tg) (it : MI)
  | set2W (i j : Nat)
  | appW (i : Nat) (a e : ME)
  | appV (i j : Nat) (a b e : ME)
  | lonW (i jr jc cv js : Nat) (n : ME) (b : MSs)
  | asgK (i : Nat) (elt : ME) (t : Tg) (it : MI)
  | whE (n : Nat) (c : ME) (body : MSs)
inductive MSs where
  | nil
  | cons (s : MS) (r : MSs)
  | frz (i : Nat) (r : MSs)
  | frzM (i : Nat) (r : MSs)
end
mutual
def ex (S : PIn) (G : Nat → List D → Option D) : MS → En → Option Res
  | .asg t e => gasg t (ev S G e)
  | .setL i es => gsetL i (glst (evs S G es))
  | .setK i a b => gsetL i (gcat (ev S G a) (ev S G b))
  | .setC i elt t it c => gsetC i (gcomp t.slots (evI S G it) t (evC S G c) (ev S G elt))
  | .par i j a b => gpar i j (gcons (ev S G a) (gcons (ev S G b) gnil))
  | .ite c a b => gitS (ft (ev S G c)) (exs S G a) (exs S G b)
  | .for_ t it body => gfor t (evI S G it) (exs S G body)
  | .ret e => gret (ev S G e)
  | .retN => gretN
  | .app i e => gapp i (ev S G e)
  | .extC i elt t it c => gext i (gcomp t.slots (evI S G it) t (evC S G c) (ev S G elt))
  | .try_ b => exs S G b
  | .nvr => fun _ => none
  | .setM i => gsetM i
  | .put i a v => gput i (ev S G a) (ev S G v)
  | .whl n i b => gwhl i (exs S G b) n
  | .pop0 t i => gpop0 t i
  | .forP t j a i b => gforS t (gitS2 (gcpop (G j) i (ev S G a))) (exs S G b)
  | .mov i j => gmov i j
  | .setM1 i a v => gsetM1 i (ev S G a) (ev S G v)
  | .par3 i j l a b d => gpar3 i j l (gcons (ev S G a) (gcons (ev S G b) (gcons (ev S G d) gnil)))
  | .setCL i elt t it c => gsetL i (gcomp t.slots (evI S G it) t (evC S G c) (ev S G elt))
  | .set2L i j => gset2L i j
  | .mkT i e => gmkG (G 1002) i (ev S G e)
  | .layT i e => gmw1 (gate (G 1002) (aLay (G 1000))) i (ev S G e)
  | .bakT i => gmw0 (gate (G 1002) aBack) i
  | .mk2T i j e => gmk2 (G 1002) i j (ev S G e)
  | .tolT i e d b => gtol (gTold (G 1004) (G 1003)) i (ev S G e) (ev S G d) (exs S G b)
  | .mkTs i a t it => gmkTs (G 1002) i (gcomp t.slots (evI S G it) t gyes (ev S G a))
  | .set2W i j => gset2W i j
  | .appW i a e => gappW i (ev S G a) (ev S G e)
  | .appV i j a b e => gappV (decL (G 1005)) i j (ev S G a) (ev S G b) (ev S G e)
  | .lonW i jr jc cv js n b => glon (decL (G 1005)) (G js) i jr jc cv (ev S G n) (exs S G b)
  | .whE n c b => gwhE (ft (ev S G c)) (exs S G b) n
  | .asgK i elt t it => gasg (.nm i) (bindS tupD (gcons (fz (gcomp t.slots (evI S G it) t gyes (ev S G elt))) gnil))
def exs (S : PIn) (G : Nat → List D → Option D) : MSs → En → Option Res
  | .nil => gskip
  | .cons s r => gseq (ex S G s) (exs S G r)
  | .frz i r => fun ρ => (gfrz i ρ).bind (exs S G r)
  | .frzM i r => fun ρ => (gfrzM i ρ).bind (exs S G r)
end

/-! ### shapes of assignments -/
def nComp : Expr → Bool
  | .ListComp _ _ _ _ => false
  | .SetComp _ _ _ _ => false
  | .DictComp _ _ _ _ _ => false
  | _ => true
theorem sw_none {v : Expr} {t : Option Expr} {l : Nat} {env : Env} (h : nComp v = true) : swapsWith v t l env = pure false := by
  unfold swapsWith
  cases v <;> first | rfl | cases h
theorem sw_cell {v : Expr} {x : Str} {p : Pos} {l : Nat} {env : Env} (hx : (env.kindOf x == some .local) = false) : swapsWith v (some (.Name x p)) l env = pure false := by
  unfold swapsWith
  cases v <;> first | rfl | simp [hx]
theorem sw_tup {v : Expr} {ts : List Expr} {n : Nat} {p : Pos} {l : Nat} {env : Env} : swapsWith v (some (.Tuple ts n p)) l env = pure false := by
  unfold swapsWith
  cases v <;> rfl
def swOk (c : SC) (tg v : Expr) : Bool := match tg with
  | .Name x _ => nComp v || !(c.names.lookup x == some .local)
  | .Tuple _ _ _ => true
  | _ => false
def notLoc (c : SC) : Expr → Bool
  | .Name x _ => !(c.names.lookup x == some .local)
  | _ => true
def stOk (c : SC) (tg v : Expr) : Bool := match tg with
  | .Name _ _ => true
  | .Tuple ts _ _ => (match v with
    | .Tuple vs _ _ => vs.all (foldedForSure 8) || ts.any (notLoc c)
    | _ => true)
  | _ => false
theorem st_fold {ts vs : List Expr} {k k2 : Nat} {p p2 : Pos} {env : Env} (h : vs.all (foldedForSure 8) = true) : swappedStores [.Tuple ts k p] (.Tuple vs k2 p2) env = pure none := by
  unfold swappedStores
  simp only [h]
  repeat' first | rfl | split
def locN (env : Env) (line : Nat) : Expr → Option Str
  | .Name id pos => if env.kindOf id == some .local && pos.line == line then some id else none
  | _ => none
theorem locN_lt {c : SC} {env : Env} (hn : env.scope.names = c.names) (line : Nat) : ∀ {ts : List Expr}, ts.any (notLoc c) = true → (ts.filterMap (locN env line)).length < ts.length
  | [], h => by cases h
  | t :: ts, h => by
    rw [List.any_cons, Bool.or_eq_true] at h
    have hle : (ts.filterMap (locN env line)).length ≤ ts.length := List.length_filterMap_le _ _
    rcases h with h | h
    · have ht : locN env line t = none := by
        cases t with
        | Name x q =>
          have h : (!(c.names.lookup x == some .local)) = true := h
          have : (env.kindOf x == some .local) = false := by
            show (env.scope.names.lookup x == some .local) = false
            rw [hn]
            simpa using h
          unfold locN
          simp [this]
        | _ => rfl
      rw [List.filterMap_cons, ht, List.length_cons]
      exact Nat.lt_succ_of_le hle
    · have ih := locN_lt hn line h
      rw [List.filterMap_cons, List.length_cons]
      split
      · omega
      · rw [List.length_cons]
        omega
theorem st_cell {ts vs : List Expr} {k k2 : Nat} {p p2 : Pos} {c : SC} {env : Env} (hn : env.scope.names = c.names) (h : ts.any (notLoc c) = true) : swappedStores [.Tuple ts k p] (.Tuple vs k2 p2) env = pure none := by
  have hl : ∀ line : Nat, ((ts.filterMap fun
      | .Name id pos => if env.kindOf id == some .local && pos.line == line then some id else none
      | _ => none).length != ts.length) = true := fun line => by
    rw [bne_iff_ne]
    have h1 := locN_lt hn line h
    have h2 : (ts.filterMap fun
      | .Name id pos => if env.kindOf id == some .local && pos.line == line then some id else none
      | _ => none) = ts.filterMap (locN env line) := by
      congr 1
    rw [h2]
    exact Nat.ne_of_lt h1
  unfold swappedStores
  dsimp only
  split
  · rfl
  · split
    · rfl
    · split
      · rfl
      · rename_i hc
        exact absurd (Bool.or_eq_true _ _ ▸ .inl (hl _)) hc
theorem st_of {tg v : Expr} {c : SC} {env : Env} (hn : env.scope.names = c.names) (h : stOk c tg v = true) : swappedStores [tg] v env = pure none := by
  unfold stOk at h
  split at h
  · unfold swappedStores
    cases v <;> rfl
  · split at h
    · rw [Bool.or_eq_true] at h
      exact h.elim st_fold (st_cell hn)
    · unfold swappedStores
      cases v with
      | Tuple a b c => rename_i hn; exact absurd rfl (hn a b c)
      | _ => rfl
  · cases h
theorem st_par {x y : Str} {a b : Expr} {px py pt pt2 : Pos} {kt k2 : Nat} {env : Env} (hb : env.blockKind = .function) (hx : env.kindOf x = some .local) (hy : env.kindOf y = some .local) (hl : py.line = px.line) (hxy : x ≠ y)
    (na : nStar a = true) (nb : nStar b = true) (hf : [a, b].all (foldedForSure 8) = false) (hc : [a, b].all (constantsAlone 8) = false) :
    swappedStores [.Tuple [.Name x px, .Name y py] kt pt] (.Tuple [a, b] k2 pt2) env = pure (some [x, y]) := by
  have hd : ([x, y].eraseDups.length != [x, y].length) = false := by
    have : (y == x) = false := beq_eq_false_iff_ne.mpr (Ne.symm hxy)
    simp [List.eraseDups_cons, this]
  have hk1 : (env.kindOf x == some NameKind.local) = true := by rw [hx]; rfl
  have hk2 : (env.kindOf y == some NameKind.local) = true := by rw [hy]; rfl
  have hbk : (env.blockKind != ScopeKind.function) = false := by rw [hb]; rfl
  unfold swappedStores
  simp only [hf, hc, List.length_cons, List.length_nil, List.head?_cons, Option.map_some, Option.getD_some, Expr.pos, List.filterMap_cons, List.filterMap_nil, hk1, hk2, hl, beq_self_eq_true, Bool.and_self, if_true, hbk]
  simp only [List.length_cons, List.length_nil] at hd
  simp [hd]
  rintro (z | z)
  · cases a <;> first | (cases na; done) | (cases z; done)
  · cases b <;> first | (cases nb; done) | (cases z; done)
theorem st_par3 {x y z : Str} {a b c : Expr} {px py pz pt pt2 : Pos} {kt k2 : Nat} {env : Env} (hb : env.blockKind = .function) (hx : env.kindOf x = some .local) (hy : env.kindOf y = some .local) (hz : env.kindOf z = some .local) (hl : py.line = px.line) (hl2 : pz.line = px.line) (hxy : x ≠ y) (hxz : x ≠ z) (hyz : y ≠ z)
    (na : nStar a = true) (nb : nStar b = true) (nc : nStar c = true) (hf : [a, b, c].all (foldedForSure 8) = false) (hc : [a, b, c].all (constantsAlone 8) = false) :
    swappedStores [.Tuple [.Name x px, .Name y py, .Name z pz] kt pt] (.Tuple [a, b, c] k2 pt2) env = pure (some [x, y, z]) := by
  have hd : ([x, y, z].eraseDups.length != [x, y, z].length) = false := by
    have h1 : (y == x) = false := beq_eq_false_iff_ne.mpr (Ne.symm hxy)
    have h2 : (z == x) = false := beq_eq_false_iff_ne.mpr (Ne.symm hxz)
    have h3 : (z == y) = false := beq_eq_false_iff_ne.mpr (Ne.symm hyz)
    simp [List.eraseDups_cons, h1, h2, h3]
  have hk1 : (env.kindOf x == some NameKind.local) = true := by rw [hx]; rfl
  have hk2 : (env.kindOf y == some NameKind.local) = true := by rw [hy]; rfl
  have hk3 : (env.kindOf z == some NameKind.local) = true := by rw [hz]; rfl
  have hbk : (env.blockKind != ScopeKind.function) = false := by rw [hb]; rfl
  unfold swappedStores
  simp only [hf, hc, List.length_cons, List.length_nil, List.head?_cons, Option.map_some, Option.getD_some, Expr.pos, List.filterMap_cons, List.filterMap_nil, hk1, hk2, hk3, hl, hl2, beq_self_eq_true, Bool.and_self, if_true, hbk]
  simp only [List.length_cons, List.length_nil] at hd
  simp [hd]
  rintro (z | z | z)
  · cases a <;> first | (cases na; done) | (cases z; done)
  · cases b <;> first | (cases nb; done) | (cases z; done)
  · cases c <;> first | (cases nc; done) | (cases z; done)
theorem sole_one {t v : Expr} {l : Nat} {env : Env} : swapsWithSole [t] v l env = swapsWith v (some t) l env := rfl

mutual
def chkS (S : PIn) (c : SC) : MS → Stmt → Bool
  | .asg t e, s => match s with
    | .Assign [tg] v _ => chkT c t tg && chkE S c e v && swOk c tg v && stOk c tg v
    | _ => false
  | .setL i es, s => match s with
    | .Assign [.Name x _] (.List xs _) _ => decide (c.N[i]? = some x) && c.sto x && chkEs S c es xs
    | _ => false
  | .setK i a b, s => match s with
    | .Assign [.Name x _] (.BinOp ea .Add eb _) _ => decide (c.N[i]? = some x) && c.sto x && chkE S c a ea && chkE S c b eb
    | _ => false
  | .setC i elt t it d, s => match s with
    | .Assign [.Name x px] (.ListComp ee [⟨tg, ei, ifs, as⟩] scope pos) _ => decide (c.N[i]? = some x) && decide (c.names.lookup x = some .local) && (px.line == pos.line) && !(scope.names.any fun (n, k) => n == x && (k == .local || k == .cell)) &&
        decide (as = 0) && decide (scope.kind = .function) && blkC c.N (scOf c) scope (ownOf c t) && nset ei && chkT (c.blk scope) t tg && chkI S c tg it ei && chkC S (c.blk scope) d ifs && chkE S (c.blk scope) elt ee
    | _ => false
  | .par i j a b, s => match s with
    | .Assign [.Tuple [.Name x px, .Name y py] _ _] (.Tuple [ea, eb] _ _) _ => decide (c.N[i]? = some x) && decide (c.N[j]? = some y) && decide (i ≠ j) && decide (c.names.lookup x = some .local) && decide (c.names.lookup y = some .local) && decide (py.line = px.line) &&
        decide (x ≠ y) && nStar ea && nStar eb && !([ea, eb].all (foldedForSure 8)) && !([ea, eb].all (constantsAlone 8)) && chkE S c a ea && chkE S c b eb
    | _ => false
  | .ite d a b, s => match s with
    | .If ed sa sb _ => chkE S c d ed && d.tst && chkSs S c a sa && chkSs S c b sb
    | _ => false
  | .for_ t it body, s => match s with
    | .For tg ei sb [] _ => nset ei && chkT c t tg && chkI S c tg it ei && chkSs S c body sb
    | _ => false
  | .ret e, s => match s with
    | .Return (some v) _ => chkE S c e v
    | _ => false
  | .retN, s => match s with
    | .Return none _ => true
    | _ => false
  | .app i e, s => match s with
    | .Expr (.Call (.Attribute (.Name x _) nm ap) [v] [] cp) _ => decide (nm = "append") && decide (c.N[i]? = some x) && c.vis x && (ap.endLine == cp.line) && nStar v && chkE S c e v
    | _ => false
  | .extC i elt t it d, s => match s with
    | .Expr (.Call (.Attribute (.Name x _) nm ap) [.ListComp ee [⟨tg, ei, ifs, as⟩] scope pos] [] cp) _ => decide (nm = "extend") && decide (c.N[i]? = some x) && c.vis x && (ap.endLine == cp.line) &&
        decide (as = 0) && decide (scope.kind = .function) && blkC c.N (scOf c) scope (ownOf c t) && nset ei && chkT (c.blk scope) t tg && chkI S c tg it ei && chkC S (c.blk scope) d ifs && chkE S (c.blk scope) elt ee
    | _ => false
  | .try_ b, s => match s with
    | .Try sb (_ :: _) [] [] _ => chkSs S c b sb
    | _ => false
  | .nvr, _ => true
  | .setM i, s => match s with
    | .Assign [.Name x _] (.Dict [] [] _) _ => decide (c.N[i]? = some x) && c.sto x
    | _ => false
  | .put i a v, s => match s with
    | .Assign [.Subscript (.Name x _) ea _] eb _ => decide (c.N[i]? = some x) && c.vis x && nComp eb && chkE S c a ea && chkE S c v eb
    | _ => false
  | .whl _ i b, s => match s with
    | .While (.Name x _) sb [] _ => decide (c.N[i]? = some x) && c.vis x && chkSs S c b sb
    | _ => false
  | .pop0 t i, s => match s with
    | .Assign [tg] (.Call (.Attribute (.Name x px) nm ap) [.Constant (.int z) j q] [] cp) _ => decide (nm = "pop") && decide (z = 0) && decide (c.N[i]? = some x) && c.vis x && (ap.endLine == cp.line) && chkT c t tg && stOk c tg (.Call (.Attribute (.Name x px) nm ap) [.Constant (.int z) j q] [] cp)
    | _ => false
  | .forP t j a i b, s => match s with
    | .For tg (.Call (.Name y _) [ea, .Call (.Attribute (.Name x _) nm ap) [] [] cp] [] _) sb [] _ => decide (nm = "pop") && decide (c.N[i]? = some x) && c.vis x && (ap.endLine == cp.line) && c.gl y && (match S.fns[j]? with | some (z, n) => decide (y = z) && decide (n = 2) | none => false) && nStar ea && chkE S c a ea && chkT c t tg && chkSs S c b sb
    | _ => false
  | .mov i j, s => match s with
    | .Assign [.Name x _] (.Name y _) _ => decide (c.N[i]? = some x) && c.sto x && decide (c.N[j]? = some y) && c.vis y
    | _ => false
  | .setM1 i a v, s => match s with
    | .Assign [.Name x _] (.Dict [some ea] [eb] _) _ => decide (c.N[i]? = some x) && c.sto x && chkE S c a ea && chkE S c v eb
    | _ => false
  | .par3 i j l a b d, s => match s with
    | .Assign [.Tuple [.Name x px, .Name y py, .Name z pz] _ _] (.Tuple [ea, eb, ed] _ _) _ => decide (c.N[i]? = some x) && decide (c.N[j]? = some y) && decide (c.N[l]? = some z) && decide (i ≠ j) && decide (i ≠ l) && decide (j ≠ l) && decide (c.names.lookup x = some .local) && decide (c.names.lookup y = some .local) && decide (c.names.lookup z = some .local) && decide (py.line = px.line) && decide (pz.line = px.line) &&
        decide (x ≠ y) && decide (x ≠ z) && decide (y ≠ z) && nStar ea && nStar eb && nStar ed && !([ea, eb, ed].all (foldedForSure 8)) && !([ea, eb, ed].all (constantsAlone 8)) && chkE S c a ea && chkE S c b eb && chkE S c d ed
    | _ => false
  | .setCL i elt t it d, s => match s with
    | .Assign [.Name x px] (.ListComp ee [⟨tg, ei, ifs, as⟩] scope pos) _ => decide (c.N[i]? = some x) && decide (c.names.lookup x = some .local) && (px.line == pos.line) && !(scope.names.any fun (n, k) => n == x && (k == .local || k == .cell)) &&
        decide (as = 0) && decide (scope.kind = .function) && blkC c.N (scOf c) scope (ownOf c t) && nset ei && chkT (c.blk scope) t tg && chkI S c tg it ei && chkC S (c.blk scope) d ifs && chkE S (c.blk scope) elt ee
    | _ => false
  | .set2L i j, s => match s with
    | .Assign [.Tuple [.Name x px, .Name y py] _ _] (.Tuple [.List [] _, .List [] _] _ _) _ => decide (c.N[i]? = some x) && decide (c.N[j]? = some y) && decide (i ≠ j) && decide (c.names.lookup x = some .local) && decide (c.names.lookup y = some .local) && decide (py.line = px.line) && decide (x ≠ y)
    | _ => false
  | .mkT i e, s => match s with
    | .Assign [.Name x _] (.Call (.Name y _) [v] [] _) _ => S.tab && decide (y = "Table") && c.gl y && decide (c.N[i]? = some x) && c.sto x && nStar v && chkE S c e v
    | _ => false
  | .layT i e, s => match s with
    | .Expr (.Call (.Attribute (.Name x _) nm ap) [v] [] cp) _ => S.tab && decide (nm = "lay") && decide (c.N[i]? = some x) && c.vis x && (ap.endLine == cp.line) && nStar v && chkE S c e v
    | _ => false
  | .bakT i, s => match s with
    | .Expr (.Call (.Attribute (.Name x _) nm ap) [] [] cp) _ => S.tab && decide (nm = "back") && decide (c.N[i]? = some x) && c.vis x && (ap.endLine == cp.line)
    | _ => false
  | .mk2T i j e, s => match s with
    | .Assign [.Tuple [.Name x px, .Name y py] _ _] (.Tuple [.Call (.Name z _) [v] [] _, .Tuple [] _ _] _ _) _ => S.tab && decide (z = "Table") && c.gl z && decide (c.N[i]? = some x) && decide (c.N[j]? = some y) && decide (i ≠ j) && decide (c.names.lookup x = some .local) && decide (c.names.lookup y = some .local) && decide (py.line = px.line) && decide (x ≠ y) && nStar v && chkE S c e v
    | _ => false
  | .tolT i e d b, s => match s with
    | .If (.Compare (.Call (.Name z _) [.Name x _, v] [] _) [.NotEq] [ed] _) sb [] _ => !behindInMarks .NotEq ed && S.tab && S.tol && decide (z = "_law_told") && c.gl z && decide (c.N[i]? = some x) && c.vis x && nStar v && chkE S c e v && chkE S c d ed && chkSs S c b sb
    | _ => false
  | .mkTs i a t it, s => match s with
    | .Assign [.Name x px] (.ListComp (.Call (.Name y _) [arg] [] _) [⟨tg, ei, [], as⟩] scope pos) _ => S.tab && decide (y = "Table") && (c.blk scope).gl y && nStar arg && decide (c.N[i]? = some x) && decide (c.names.lookup x = some .local) && (px.line == pos.line) && !(scope.names.any fun (n, k) => n == x && (k == .local || k == .cell)) &&
        decide (as = 0) && decide (scope.kind = .function) && blkC c.N (scOf c) scope (ownOf c t) && nset ei && chkT (c.blk scope) t tg && chkI S c tg it ei && chkE S (c.blk scope) a arg
    | _ => false
  | .set2W i j, s => match s with
    | .Assign [.Tuple [.Name x px, .Name y py] _ _] (.Tuple [.List [.List [] _, .List [] _, .List [] _] _, .List [.List [] _, .List [] _, .List [] _] _] _ _) _ => decide (c.N[i]? = some x) && decide (c.N[j]? = some y) && decide (i ≠ j) && decide (c.names.lookup x = some .local) && decide (c.names.lookup y = some .local) && decide (py.line = px.line) && decide (x ≠ y)
    | _ => false
  | .appW i a e, s => match s with
    | .Expr (.Call (.Attribute (.Subscript (.Name x _) ea _) nm ap) [v] [] cp) _ => decide (nm = "append") && decide (c.N[i]? = some x) && c.vis x && (ap.endLine == cp.line) && nsl ea && nStar v && chkE S c a ea && chkE S c e v
    | _ => false
  | .appV i j a b e, s => match s with
    | .Expr (.Call (.Attribute (.Subscript (.Name x _) ea _) nm ap) [.Call (.Name lv _) [.Subscript (.Name y _) eb _, v] [] _] [] cp) _ => S.tab && S.liv && decide (nm = "append") && decide (lv = "_law_lives") && c.gl lv && decide (i ≠ j) && decide (c.N[i]? = some x) && c.vis x && decide (c.N[j]? = some y) && c.vis y && (ap.endLine == cp.line) && nsl ea && nsl eb && nStar v && chkE S c a ea && chkE S c b eb && chkE S c e v
    | _ => false
  | .lonW i jr jc cv js n b, s => match s with
    | .If (.UnaryOp .Not (.Call (.Name sm _) [.Call (.Name t1 _) [.Subscript (.Name x _) e1 _] [] _, .Call (.Name t2 _) [.ListComp (.Call (.Name lv _) [.Name y _, .Name z _] [] _) [⟨.Name z2 zp, .Subscript (.Name u _) e2 _, [], as⟩] scope _] [] _] [] _) _) sb [] _ =>
        S.tab && S.liv && decide (S.fns[js]? = some (sm, 2)) && c.gl sm && decide (t1 = "tuple") && decide (t2 = "tuple") && c.gl t1 && decide (("tuple" : Str) ∈ S.bn) && decide (lv = "_law_lives") && decide (z2 = z) && decide (c.N[jr]? = some x) && c.vis x && decide (c.N[jc]? = some u) && c.vis u && nsl e1 && nsl e2 && chkE S c n e1 && chkE S c n e2 &&
        decide (as = 0) && decide (scope.kind = .function) && blkC c.N (scOf c) scope (ownOf c (.nm cv)) && decide (i ≠ cv) && (c.blk scope).gl lv && (c.blk scope).vis y && decide (c.N[i]? = some y) && (c.blk scope).vis z && decide (c.N[cv]? = some z) && chkT (c.blk scope) (.nm cv) (.Name z2 zp) && chkSs S c b sb
    | _ => false
  | .asgK _ _ _ _, _ => false
  | .whE _ d b, s => match s with
    | .While ed sb [] _ => chkE S c d ed && d.tst && chkSs S c b sb
    | _ => false
def chkSs (S : PIn) (c : SC) : MSs → List Stmt → Bool
  | .nil, ss => ss.isEmpty
  | .cons m r, ss => match ss with
    | s :: rest => chkS S c m s && chkSs S c r rest
    | [] => false
  | .frz _ r, ss => chkSs S c r ss
  | .frzM _ r, ss => chkSs S c r ss
end
section
variable {S : PIn} {G : Nat → List D → Option D} {k : Nat}
mutual
theorem sndS : ∀ (m : MS) {X : Cx} {c : SC} {s : Stmt}, Cok S G k X c → PassesOwn (model X.prog X.w) X.A X.env X.xe → chkS S c m s = true → PS X s (sD X.kf (ex S G m))
  | .asg t e, X, c, s, hX, hP, h => by
    unfold chkS at h
    split at h
    · rename_i tg v pos
      simp only [Bool.and_eq_true] at h
      obtain ⟨⟨⟨h1, h2⟩, h3⟩, h4⟩ := h
      rw [ex]
      refine psd_asg (sndE e hX h2).1 (sndT t hX h1) ?_ (st_of hX.names h4) (by rw [asgE_cons (chkT_nstar h1)]; rfl)
      rw [sole_one]
      unfold swOk at h3
      split at h3
      · rw [Bool.or_eq_true] at h3
        rcases h3 with z | z
        · exact sw_none z
        · refine sw_cell ?_
          show (X.env.scope.names.lookup _ == _) = false
          rw [hX.names]
          simpa using z
      · exact sw_tup
      · cases h3
    · cases h
  | .setL i es, X, c, s, hX, hP, h => by
    unfold chkS at h
    split at h
    · simp only [Bool.and_eq_true, decide_eq_true_eq] at h
      obtain ⟨⟨h1, h2⟩, h3⟩ := h
      obtain ⟨q1, q2⟩ := hX.sto h2
      rw [ex]
      exact psd_setL hX.nd' (by rw [hX.N]; exact h1) q1 (pdl_lst (sndEs es hX h3)) (sw_none rfl) q2
    · cases h
  | .setK i a b, X, c, s, hX, hP, h => by
    unfold chkS at h
    split at h
    · simp only [Bool.and_eq_true, decide_eq_true_eq] at h
      obtain ⟨⟨⟨h1, h2⟩, h3⟩, h4⟩ := h
      obtain ⟨q1, q2⟩ := hX.sto h2
      rw [ex]
      exact psd_setL hX.nd' (by rw [hX.N]; exact h1) q1 (pdl_cat (sndE a hX h3).1 (sndE b hX h4).1) (sw_none rfl) q2
    · cases h
  | .setC i elt t it d, X, c, s, hX, hP, h => by
    unfold chkS at h
    split at h
    · rename_i x px ee tg ei ifs as scope pos spos
      simp only [Bool.and_eq_true, decide_eq_true_eq, Bool.not_eq_true'] at h
      obtain ⟨⟨⟨⟨⟨⟨⟨⟨⟨⟨⟨i1, i2⟩, i3⟩, i4⟩, rfl⟩, h1⟩, h2⟩, h3⟩, h4⟩, h5⟩, h6⟩, h7⟩ := h
      rw [ex]
      have hloc : X.env.scope.names.lookup x = some .local := by rw [hX.names]; exact i2
      have := psd_setCd (i := i) (py := px) (spos := spos) (pos := pos) (own := ownOf c t) (fun i hi => by rw [ownOf_slots]; exact hi) hX.calm hX.nd' (by rw [hX.N]; exact i1) hloc (sw_true hX.kind hloc i3 i4) (sndI it hX h5) (hX.blkOk h2) (fun s H C cl fp => sndT t (hX.blk h1 s H C cl fp) h4) (fun s H C cl fp => sndC d (hX.blk h1 s H C cl fp) h6) (fun s H C cl fp => (sndE elt (hX.blk h1 s H C cl fp) h7).1) (fold_of h3)
      rw [ownOf_slots] at this
      exact this
    · cases h
  | .par i j a b, X, c, s, hX, hP, h => by
    unfold chkS at h
    split at h
    · rename_i x px y py _ _ ea eb _ _ _
      simp only [Bool.and_eq_true, decide_eq_true_eq, Bool.not_eq_true'] at h
      obtain ⟨⟨⟨⟨⟨⟨⟨⟨⟨⟨⟨⟨h1, h2⟩, h3⟩, h4⟩, h5⟩, h6⟩, h7⟩, h8⟩, h9⟩, h10⟩, h11⟩, h12⟩, h13⟩ := h
      have bk : X.env.blockKind = .function := by unfold Env.blockKind; rw [hX.kind]; rfl
      have l1 : X.env.scope.names.lookup x = some NameKind.local := by rw [hX.names]; exact h4
      have l2 : X.env.scope.names.lookup y = some NameKind.local := by rw [hX.names]; exact h5
      rw [ex]
      exact psd_par hX.calm hX.nd' (by rw [hX.N]; exact h1) (by rw [hX.N]; exact h2) h3 l1 l2 (pda_cons (sndE a hX h12).1 (pda_cons (sndE b hX h13).1 pda_nil (star_cons h9)) (star_cons h8)) (st_par bk l1 l2 h6 h7 h8 h9 h10 h11) (sole_one.trans sw_tup)
    · cases h
  | .ite d a b, X, c, s, hX, hP, h => by
    unfold chkS at h
    split at h
    · simp only [Bool.and_eq_true] at h
      rw [ex]
      exact psd_if ((sndE d hX h.1.1.1).2 h.1.1.2) (sndSs a hX hP h.1.2) (sndSs b hX hP h.2)
    · cases h
  | .for_ t it body, X, c, s, hX, hP, h => by
    unfold chkS at h
    split at h
    · simp only [Bool.and_eq_true] at h
      rw [ex]
      exact psd_for hP hX.calm (sndI it hX h.1.2) (sndT t hX h.1.1.2) (sndSs body hX hP h.2) (fold_of h.1.1.1)
    · cases h
  | .ret e, X, c, s, hX, hP, h => by
    unfold chkS at h
    split at h
    · rw [ex]
      exact psd_ret (sndE e hX h).1
    · cases h
  | .retN, X, c, s, hX, hP, h => by
    unfold chkS at h
    split at h
    · rw [ex]
      exact psd_retN
    · cases h
  | .app i e, X, c, s, hX, hP, h => by
    unfold chkS at h
    split at h
    · simp only [Bool.and_eq_true, decide_eq_true_eq] at h
      obtain ⟨⟨⟨⟨⟨rfl, h1⟩, h2⟩, h3⟩, h4⟩, h5⟩ := h
      obtain ⟨q1, q2, q3⟩ := hX.vis h2
      rw [ex]
      exact psd_app (by rw [hX.N]; exact h1) q1 q2 q3 (sndE e hX h5).1 (star_cons h4) h3
    · cases h
  | .extC i elt t it d, X, c, s, hX, hP, h => by
    unfold chkS at h
    split at h
    · rename_i x px nm ap ee tg ei ifs as scope pos cp spos
      simp only [Bool.and_eq_true, decide_eq_true_eq] at h
      obtain ⟨⟨⟨⟨⟨⟨⟨⟨⟨⟨⟨rfl, i1⟩, i2⟩, i3⟩, rfl⟩, h1⟩, h2⟩, h3⟩, h4⟩, h5⟩, h6⟩, h7⟩ := h
      obtain ⟨q1, q2, q3⟩ := hX.vis i2
      rw [ex]
      have := pdl_comp (pos := pos) (own := ownOf c t) (fun i hi => by rw [ownOf_slots]; exact hi) hX.calm hX.nd' (sndI it hX h5) (hX.blkOk h2) (fun s H C cl fp => sndT t (hX.blk h1 s H C cl fp) h4) (fun s H C cl fp => sndC d (hX.blk h1 s H C cl fp) h6) (fun s H C cl fp => (sndE elt (hX.blk h1 s H C cl fp) h7).1) (fold_of h3)
      rw [ownOf_slots] at this
      exact psd_ext (by rw [hX.N]; exact i1) q1 q2 q3 this rfl i3
    · cases h
  | .try_ b, X, c, s, hX, hP, h => by
    unfold chkS at h
    split at h
    · rw [ex]
      exact psd_try (sndSs b (X := X.nox) (c := c) ⟨hX.kind, hX.names, hX.N, hX.nd, hX.calm, hX.fn, hX.room, hX.bn, hX.gds, hX.gdd, hX.fns, hX.tab⟩ PassesOwn.never h)
    · cases h
  | .nvr, X, c, s, hX, hP, h => by
    rw [ex]
    exact psd_nvr
  | .setM i, X, c, s, hX, hP, h => by
    unfold chkS at h
    split at h
    · simp only [Bool.and_eq_true, decide_eq_true_eq] at h
      obtain ⟨q1, q2⟩ := hX.sto h.2
      rw [ex]
      exact psd_setM hX.nd' (by rw [hX.N]; exact h.1) q1 (sw_none rfl) q2
    · cases h
  | .put i a v, X, c, s, hX, hP, h => by
    unfold chkS at h
    split at h
    · simp only [Bool.and_eq_true, decide_eq_true_eq] at h
      obtain ⟨⟨⟨⟨h1, h2⟩, h3⟩, h4⟩, h5⟩ := h
      obtain ⟨q1, q2, q3⟩ := hX.vis h2
      rw [ex]
      exact psd_put hX.units (by rw [hX.N]; exact h1) q1 q2 q3 (sndE a hX h4).1 (sndE v hX h5).1 (sw_none h3)
    · cases h
  | .whl n i b, X, c, s, hX, hP, h => by
    unfold chkS at h
    split at h
    · simp only [Bool.and_eq_true, decide_eq_true_eq] at h
      obtain ⟨⟨h1, h2⟩, h3⟩ := h
      obtain ⟨q1, q2, q3⟩ := hX.vis h2
      rw [ex]
      exact psd_whl hP (by rw [hX.N]; exact h1) q1 q2 q3 (sndSs b hX hP h3)
    · cases h
  | .pop0 t i, X, c, s, hX, hP, h => by
    unfold chkS at h
    split at h
    · simp only [Bool.and_eq_true, decide_eq_true_eq] at h
      obtain ⟨⟨⟨⟨⟨⟨rfl, rfl⟩, h1⟩, h2⟩, h3⟩, h4⟩, h5⟩ := h
      obtain ⟨q1, q2, q3⟩ := hX.vis h2
      rw [ex]
      exact psd_pop0 (by rw [hX.N]; exact h1) q1 q2 q3 h3 (sndT t hX h4) (sole_one.trans (sw_none rfl)) (st_of hX.names h5) (by rw [asgE_cons (chkT_nstar h4)]; rfl)
    · cases h
  | .forP t j a i b, X, c, s, hX, hP, h => by
    unfold chkS at h
    split at h
    · simp only [Bool.and_eq_true, decide_eq_true_eq] at h
      obtain ⟨⟨⟨⟨⟨⟨⟨⟨⟨rfl, h1⟩, h2⟩, h3⟩, h4⟩, h5⟩, h6⟩, h7⟩, h8⟩, h9⟩ := h
      split at h5
      · rename_i z n ey
        simp only [Bool.and_eq_true, decide_eq_true_eq] at h5
        obtain ⟨rfl, rfl⟩ := h5
        obtain ⟨f, fd, ps, w1, w2, w3, w4⟩ := hX.fns _ _ _ ey
        obtain ⟨g1, g2, g3⟩ := hX.gl h4
        obtain ⟨q1, q2, q3⟩ := hX.vis h2
        rw [ex]
        exact psd_forS hP hX.calm (pid_dataS (pd_cpop w1 hX.room g1 w2 w3 w4 g2 (sndE a hX h7).1 (by rw [hX.N]; exact h1) q1 q2 q3 h3 (star_cons h6) rfl)) (sndT t hX h8) (sndSs b hX hP h9) (fold_of rfl)
      · cases h5
    · cases h
  | .mov i j, X, c, s, hX, hP, h => by
    unfold chkS at h
    split at h
    · simp only [Bool.and_eq_true, decide_eq_true_eq] at h
      obtain ⟨⟨⟨h1, h2⟩, h3⟩, h4⟩ := h
      obtain ⟨q1, q2⟩ := hX.sto h2
      obtain ⟨w1, w2, w3⟩ := hX.vis h4
      rw [ex]
      exact psd_mov hX.nd' (by rw [hX.N]; exact h1) q1 (by rw [hX.N]; exact h3) w1 w2 w3 (sw_none rfl) q2
    · cases h
  | .setM1 i a v, X, c, s, hX, hP, h => by
    unfold chkS at h
    split at h
    · simp only [Bool.and_eq_true, decide_eq_true_eq] at h
      obtain ⟨⟨⟨h1, h2⟩, h3⟩, h4⟩ := h
      obtain ⟨q1, q2⟩ := hX.sto h2
      rw [ex]
      exact psd_setM1 hX.units hX.nd' (by rw [hX.N]; exact h1) q1 (sndE a hX h3).1 (sndE v hX h4).1 (sw_none rfl) q2
    · cases h
  | .par3 i j l a b d, X, c, s, hX, hP, h => by
    unfold chkS at h
    split at h
    · rename_i x px y py z pz _ _ ea eb ed _ _ _
      simp only [Bool.and_eq_true, decide_eq_true_eq, Bool.not_eq_true'] at h
      obtain ⟨⟨⟨⟨⟨⟨⟨⟨⟨⟨⟨⟨⟨⟨⟨⟨⟨⟨⟨⟨⟨h1, h2⟩, h3⟩, h4⟩, h5⟩, h6⟩, h7⟩, h8⟩, h9⟩, h10⟩, h11⟩, h12⟩, h13⟩, h14⟩, h15⟩, h16⟩, h17⟩, h18⟩, h19⟩, h20⟩, h21⟩, h22⟩ := h
      have bk : X.env.blockKind = .function := by unfold Env.blockKind; rw [hX.kind]; rfl
      have l1 : X.env.scope.names.lookup x = some NameKind.local := by rw [hX.names]; exact h7
      have l2 : X.env.scope.names.lookup y = some NameKind.local := by rw [hX.names]; exact h8
      have l3 : X.env.scope.names.lookup z = some NameKind.local := by rw [hX.names]; exact h9
      rw [ex]
      exact psd_par3 hX.calm hX.nd' (by rw [hX.N]; exact h1) (by rw [hX.N]; exact h2) (by rw [hX.N]; exact h3) h4 h5 h6 l1 l2 l3
        (pda_cons (sndE a hX h20).1 (pda_cons (sndE b hX h21).1 (pda_cons (sndE d hX h22).1 pda_nil (star_cons h17)) (star_cons h16)) (star_cons h15)) (st_par3 bk l1 l2 l3 h10 h11 h12 h13 h14 h15 h16 h17 h18 h19) (sole_one.trans sw_tup)
    · cases h
  | .setCL i elt t it d, X, c, s, hX, hP, h => by
    unfold chkS at h
    split at h
    · rename_i x px ee tg ei ifs as scope pos spos
      simp only [Bool.and_eq_true, decide_eq_true_eq, Bool.not_eq_true'] at h
      obtain ⟨⟨⟨⟨⟨⟨⟨⟨⟨⟨⟨i1, i2⟩, i3⟩, i4⟩, rfl⟩, h1⟩, h2⟩, h3⟩, h4⟩, h5⟩, h6⟩, h7⟩ := h
      rw [ex]
      have hloc : X.env.scope.names.lookup x = some .local := by rw [hX.names]; exact i2
      have := psd_setC (i := i) (py := px) (spos := spos) (pos := pos) (own := ownOf c t) (fun i hi => by rw [ownOf_slots]; exact hi) hX.calm hX.nd' (by rw [hX.N]; exact i1) hloc (sw_true hX.kind hloc i3 i4) (sndI it hX h5) (hX.blkOk h2) (fun s H C cl fp => sndT t (hX.blk h1 s H C cl fp) h4) (fun s H C cl fp => sndC d (hX.blk h1 s H C cl fp) h6) (fun s H C cl fp => (sndE elt (hX.blk h1 s H C cl fp) h7).1) (fold_of h3)
      rw [ownOf_slots] at this
      exact this
    · cases h
  | .set2L i j, X, c, s, hX, hP, h => by
    unfold chkS at h
    split at h
    · rename_i x px y py _ _ _ _ _ _ _
      simp only [Bool.and_eq_true, decide_eq_true_eq] at h
      obtain ⟨⟨⟨⟨⟨⟨h1, h2⟩, h3⟩, h4⟩, h5⟩, h6⟩, h7⟩ := h
      have bk : X.env.blockKind = .function := by unfold Env.blockKind; rw [hX.kind]; rfl
      have l1 : X.env.scope.names.lookup x = some NameKind.local := by rw [hX.names]; exact h4
      have l2 : X.env.scope.names.lookup y = some NameKind.local := by rw [hX.names]; exact h5
      rw [ex]
      exact psd_set2L hX.calm hX.nd' (by rw [hX.N]; exact h1) (by rw [hX.N]; exact h2) h3 l1 l2 (st_par bk l1 l2 h6 h7 rfl rfl rfl rfl) (sole_one.trans sw_tup)
    · cases h
  | .mkT i e, X, c, s, hX, hP, h => by
    unfold chkS at h
    split at h
    · simp only [Bool.and_eq_true, decide_eq_true_eq] at h
      obtain ⟨⟨⟨⟨⟨⟨h0, rfl⟩, h1⟩, h2⟩, h3⟩, h4⟩, h5⟩ := h
      obtain ⟨C, T, _⟩ := hX.tab h0
      obtain ⟨q1, q2⟩ := hX.sto h3
      rw [ex]
      exact psd_mkG T hX.room (hX.gl h1).1 hX.nd' (by rw [hX.N]; exact h2) q1 q2 (sndE e hX h5).1 (star_cons h4)
    · cases h
  | .layT i e, X, c, s, hX, hP, h => by
    unfold chkS at h
    split at h
    · simp only [Bool.and_eq_true, decide_eq_true_eq] at h
      obtain ⟨⟨⟨⟨⟨⟨h0, rfl⟩, h1⟩, h2⟩, h3⟩, h4⟩, h5⟩ := h
      obtain ⟨C, T, _⟩ := hX.tab h0
      obtain ⟨q1, q2, q3⟩ := hX.vis h2
      rw [ex]
      exact psd_lay T hX.room (by rw [hX.N]; exact h1) q1 q2 q3 (sndE e hX h5).1 (star_cons h4) h3
    · cases h
  | .bakT i, X, c, s, hX, hP, h => by
    unfold chkS at h
    split at h
    · simp only [Bool.and_eq_true, decide_eq_true_eq] at h
      obtain ⟨⟨⟨⟨h0, rfl⟩, h1⟩, h2⟩, h3⟩ := h
      obtain ⟨C, T, _⟩ := hX.tab h0
      obtain ⟨q1, q2, q3⟩ := hX.vis h2
      rw [ex]
      exact psd_back T hX.room (by rw [hX.N]; exact h1) q1 q2 q3 h3
    · cases h
  | .mk2T i j e, X, c, s, hX, hP, h => by
    unfold chkS at h
    split at h
    · rename_i x px y py _ _ z _ v _ _ _ _ _ _
      simp only [Bool.and_eq_true, decide_eq_true_eq] at h
      obtain ⟨⟨⟨⟨⟨⟨⟨⟨⟨⟨⟨h0, rfl⟩, hg⟩, h1⟩, h2⟩, h3⟩, h4⟩, h5⟩, h6⟩, h7⟩, h8⟩, h9⟩ := h
      obtain ⟨C, T, _⟩ := hX.tab h0
      have bk : X.env.blockKind = .function := by unfold Env.blockKind; rw [hX.kind]; rfl
      have l1 : X.env.scope.names.lookup x = some NameKind.local := by rw [hX.names]; exact h4
      have l2 : X.env.scope.names.lookup y = some NameKind.local := by rw [hX.names]; exact h5
      rw [ex]
      exact psd_mk2 T hX.room (hX.gl hg).1 hX.calm hX.nd' (by rw [hX.N]; exact h1) (by rw [hX.N]; exact h2) h3 l1 l2 (sndE e hX h9).1 (star_cons h8) (st_par bk l1 l2 h6 h7 rfl rfl rfl rfl) (sole_one.trans sw_tup)
    · cases h
  | .tolT i e d b, X, c, s, hX, hP, h => by
    unfold chkS at h
    split at h
    · simp only [Bool.and_eq_true, decide_eq_true_eq, Bool.not_eq_true'] at h
      obtain ⟨⟨⟨⟨⟨⟨⟨⟨⟨⟨hm, h0⟩, ht⟩, rfl⟩, hg⟩, h1⟩, h2⟩, h3⟩, h4⟩, h5⟩, h6⟩ := h
      obtain ⟨C, T, TT, _⟩ := hX.tab h0
      obtain ⟨q1, q2, q3⟩ := hX.vis h2
      rw [ex]
      exact psd_tol T.tx (TT ht) hX.room hX.units (hX.gl hg).1 (by rw [hX.N]; exact h1) q1 q2 q3 (sndE e hX h4).1 (star_cons h3) (sndE d hX h5).1 hm (sndSs b hX hP h6)
    · cases h
  | .mkTs i a t it, X, c, s, hX, hP, h => by
    unfold chkS at h
    split at h
    · rename_i x px y yp arg cp tg ei as scope pos spos
      simp only [Bool.and_eq_true, decide_eq_true_eq, Bool.not_eq_true'] at h
      obtain ⟨⟨⟨⟨⟨⟨⟨⟨⟨⟨⟨⟨⟨⟨h0, rfl⟩, hg⟩, hst⟩, i1⟩, i2⟩, i3⟩, i4⟩, rfl⟩, h1⟩, h2⟩, h3⟩, h4⟩, h5⟩, h7⟩ := h
      obtain ⟨C, T, _⟩ := hX.tab h0
      rw [ex]
      have hloc : X.env.scope.names.lookup x = some .local := by rw [hX.names]; exact i2
      have := psd_mkTs (i := i) (py := px) (spos := spos) (pos := pos) (p := yp) (cp := cp) (own := ownOf c t) T (fun s H C cl fp => (hX.blk h1 s H C cl fp).room) (fun s H C cl fp => ((hX.blk h1 s H C cl fp).gl hg).1) (fun i hi => by rw [ownOf_slots]; exact hi) hX.calm hX.nd' (by rw [hX.N]; exact i1) hloc (sw_true hX.kind hloc i3 i4) (sndI it hX h5) (hX.blkOk h2) (fun s H C cl fp => sndT t (hX.blk h1 s H C cl fp) h4) (fun s H C cl fp => (sndE a (hX.blk h1 s H C cl fp) h7).1) (fun env => star_cons hst) (fold_of h3)
      rw [ownOf_slots] at this
      exact this
    · cases h
  | .set2W i j, X, c, s, hX, hP, h => by
    unfold chkS at h
    split at h
    · rename_i x px y py _ _ _ _ _ _ _ _ _ _ _ _ _
      simp only [Bool.and_eq_true, decide_eq_true_eq] at h
      obtain ⟨⟨⟨⟨⟨⟨h1, h2⟩, h3⟩, h4⟩, h5⟩, h6⟩, h7⟩ := h
      have bk : X.env.blockKind = .function := by unfold Env.blockKind; rw [hX.kind]; rfl
      have l1 : X.env.scope.names.lookup x = some NameKind.local := by rw [hX.names]; exact h4
      have l2 : X.env.scope.names.lookup y = some NameKind.local := by rw [hX.names]; exact h5
      rw [ex]
      exact psd_set2W hX.calm hX.nd' (by rw [hX.N]; exact h1) (by rw [hX.N]; exact h2) h3 l1 l2 (st_par bk l1 l2 h6 h7 rfl rfl rfl rfl) (sole_one.trans sw_tup)
    · cases h
  | .appW i a e, X, c, s, hX, hP, h => by
    unfold chkS at h
    split at h
    · simp only [Bool.and_eq_true, decide_eq_true_eq] at h
      obtain ⟨⟨⟨⟨⟨⟨⟨rfl, h1⟩, h2⟩, h3⟩, h4⟩, h5⟩, h6⟩, h7⟩ := h
      obtain ⟨q1, q2, q3⟩ := hX.vis h2
      rw [ex]
      exact psd_appW (by rw [hX.N]; exact h1) q1 q2 q3 (sndE a hX h6).1 (ix_of h4) (sndE e hX h7).1 (star_cons h5) h3
    · cases h
  | .appV i j a b e, X, c, s, hX, hP, h => by
    unfold chkS at h
    split at h
    · simp only [Bool.and_eq_true, decide_eq_true_eq] at h
      obtain ⟨⟨⟨⟨⟨⟨⟨⟨⟨⟨⟨⟨⟨⟨⟨⟨h0, hv⟩, rfl⟩, rfl⟩, hg⟩, hij⟩, n1⟩, v1⟩, n2⟩, v2⟩, hl⟩, p1⟩, p2⟩, hst⟩, c1⟩, c2⟩, c3⟩ := h
      obtain ⟨C, T, _, LL⟩ := hX.tab h0
      obtain ⟨q1, q2, q3⟩ := hX.vis v1
      obtain ⟨r1, r2, r3⟩ := hX.vis v2
      rw [ex]
      exact psd_appV T.tx (LL hv) hX.room (hX.gl hg).1 hij (by rw [hX.N]; exact n1) q1 q2 q3 (by rw [hX.N]; exact n2) r1 r2 r3 (sndE a hX c1).1 (ix_of p1) (sndE b hX c2).1 (ix_of p2) (sndE e hX c3).1 (star_cons hst) hl
    · cases h
  | .lonW i jr jc cv js n b, X, c, s, hX, hP, h => by
    unfold chkS at h
    split at h
    · rename_i sm _ t1 _ x _ e1 _ _ t2 _ lv _ y _ z _ _ z2 zp u _ e2 _ as scope _ _ _ _ sb _
      simp only [Bool.and_eq_true, decide_eq_true_eq] at h
      obtain ⟨⟨⟨⟨⟨⟨⟨⟨⟨⟨⟨⟨⟨⟨⟨⟨⟨⟨⟨⟨⟨⟨⟨⟨⟨⟨⟨⟨h0, hv⟩, hs⟩, gs⟩, rfl⟩, rfl⟩, gt⟩, bt⟩, rfl⟩, rfl⟩, nx⟩, vx⟩, nu⟩, vu⟩, pl1⟩, pl2⟩, ce1⟩, ce2⟩, rfl⟩, hk⟩, hbl⟩, hic⟩, gl⟩, vy⟩, ny⟩, vz⟩, nz⟩, ct⟩, cb⟩ := h
      obtain ⟨C, T, _, LL⟩ := hX.tab h0
      obtain ⟨fS, fdS, psS, FS, gS, kS, bS⟩ := hX.fns js _ _ hs
      obtain ⟨q1, q2, q3⟩ := hX.vis vx
      obtain ⟨r1, r2, r3⟩ := hX.vis vu
      rw [ex]
      exact psd_lon (own := ownOf c (.nm cv)) T.tx (LL hv) FS gS kS bS (hX.gl gs).1 (hX.gl gs).2.1 hX.room (hX.gl gt).1 (hX.bn _ bt) hX.calm hX.nd' (by rw [hX.N]; exact nx) q1 q2 q3 (by rw [hX.N]; exact nu) r1 r2 r3 (sndE n hX ce1).1 (ix_of pl1) (sndE n hX ce2).1 (ix_of pl2) (hX.blkOk hbl) (by rw [ownOf_slots]; exact fun w => hic (List.mem_singleton.mp w)) (by rw [ownOf_slots]; exact List.mem_singleton.mpr rfl)
        (fun s H C' cl fp => by
          have hB := hX.blk hk s H C' cl fp
          obtain ⟨y1, y2, y3⟩ := hB.vis vy
          obtain ⟨z1, z2, z3⟩ := hB.vis vz
          exact ⟨sndT (.nm cv) hB ct, pe_var (i := i) (by rw [hB.N]; exact ny) y1 y2 y3, pe_var (i := cv) (by rw [hB.N]; exact nz) z1 z2 z3, hB.room, (hB.gl gl).1⟩)
        (fold_of rfl) (sndSs b hX hP cb)
    · cases h
  | .asgK i elt t it, X, c, s, hX, hP, h => by
    unfold chkS at h
    cases h
  | .whE n d b, X, c, s, hX, hP, h => by
    unfold chkS at h
    split at h
    · simp only [Bool.and_eq_true] at h
      rw [ex]
      exact psd_whE hP ((sndE d hX h.1.1).2 h.1.2) (sndSs b hX hP h.2)
    · cases h
theorem sndSs : ∀ (m : MSs) {X : Cx} {c : SC} {ss : List Stmt}, Cok S G k X c → PassesOwn (model X.prog X.w) X.A X.env X.xe → chkSs S c m ss = true → PSs X ss (sD X.kf (exs S G m))
  | .nil, X, c, ss, hX, hP, h => by
    unfold chkSs at h
    cases ss with
    | nil => rw [exs]; exact psd_nil
    | cons _ _ => cases h
  | .cons m r, X, c, ss, hX, hP, h => by
    unfold chkSs at h
    split at h
    · rw [Bool.and_eq_true] at h
      rw [exs]
      exact psd_cons (sndS m hX hP h.1) (sndSs r hX hP h.2)
    · cases h
  | .frz i r, X, c, ss, hX, hP, h => by
    unfold chkSs at h
    rw [exs]
    exact psd_frz (sndSs r hX hP h)
  | .frzM i r, X, c, ss, hX, hP, h => by
    unfold chkSs at h
    rw [exs]
    exact psd_frzM (sndSs r hX hP h)
end
end
end DL
end
section
namespace DL
open PySem PySem.Spec L2
open PyProof.Rows hiding St
/-! a def whose body wants a token -/
section
variable {X : Cx}
theorem PETi {e : Expr} {t t' : TE} (h : PET X e t') (f : ∀ σ H Q, t σ H Q → t' σ H Q) : PET X e t := fun pins s σ H Q h0 I w => h pins s σ H Q h0 I (f _ _ _ w)
theorem PSTi {e : Stmt} {t t' : TS} (h : PST X e t') (f : ∀ D σ H, t D σ H → t' D σ H) : PST X e t := fun pins s σ H D h0 I w => h pins s σ H D h0 I (f _ _ _ w)
theorem PSsTi {e : List Stmt} {t t' : TS} (h : PSsT X e t') (f : ∀ D σ H, t D σ H → t' D σ H) : PSsT X e t := fun pins s σ H D h0 I w => h pins s σ H D h0 I (f _ _ _ w)
theorem noxT {st : List Stmt} {t : TS} (h : PSsT X.nox st t) : PSsT X st t := fun pins s σ H D h0 I hw => wpAny_mono (h pins s σ H D h0 (I.wish _) hw) (fun _ _ q => SP.unwish q) fun _ _ z => z.elim
theorem replL_one (y z : Nat) : ∀ l : List Nat, PySem.StrLaws.replL [y] [z] l = l.map fun c => if c = y then z else c
  | [] => PySem.StrLaws.replL_nil
  | c :: r => by
    by_cases h : c = y
    · rw [PySem.StrLaws.replL_hit (by simp) (by simp [h]), List.map_cons, if_pos h]
      show [z] ++ PySem.StrLaws.replL [y] [z] r = _
      rw [replL_one y z r]
      rfl
    · rw [PySem.StrLaws.replL_miss (by simpa using h), List.map_cons, if_neg h, replL_one y z r]
theorem pet_rpl {a : Expr} {fa : En → Option D} {ys zs : Str} {y z j k : Nat} {c0 c1 apos pos : Pos} (hy : TL.tl ys = [y]) (hz : TL.tl zs = [z]) (hne : (ys == zs) = false) (ho : PET X a (tD X.kf fa)) (hbase : attributeBase a "replace" X.env (eval a X.env) = eval a X.env) (hline : (apos.endLine == pos.line) = true) :
    PET X (.Call (.Attribute a "replace" apos) [.Constant (.str ys) j c0, .Constant (.str zs) k c1] [] pos) (tD X.kf (bind1 (rplD y z) fa)) := PETi (CwR.pet_replT ho hne rfl hbase hline) fun σ H Q h => by
  obtain ⟨P, F, ρ, d, vw, e, k⟩ := h
  obtain ⟨x, ex, e⟩ := bind_some_iff e
  cases x with
  | str l =>
    have e : (if l.length ≤ 1000000 then some (D.str (l.map fun c => if c = y then z else c)) else none) = some d := e
    split at e
    · rename_i hl
      cases e
      refine ⟨P, F, ρ, .str l, vw, ex, fun v F1 H1 g1 q1 => ?_⟩
      cases q1
      have lz : zs.length = 1 := by
        rw [← mkS_tl zs, hz]
        rfl
      have ly : ys.length = 1 := by
        rw [← mkS_tl ys, hy]
        rfl
      refine ⟨_, rfl, by rw [mkS_length, lz]; omega, ?_⟩
      have e2 : Txt.replace (mkS l) ys zs = mkS (l.map fun c => if c = y then z else c) := by
        refine TL.ext_tl ?_
        show (Txt.replace (mkS l) ys zs).cps.toList = _
        rw [PySem.StrLaws.replace_list (by omega)]
        show PySem.StrLaws.replL (TL.tl ys) (TL.tl zs) (TL.tl (mkS l)) = _
        rw [hy, hz]
        have e3 : ∀ l : List Nat, TL.tl (mkS l) = l := fun l => by simp [mkS, TL.tl]
        rw [e3, e3]
        exact replL_one y z l
      rw [e2]
      exact k _ F1 H1 g1 (.str _)
    · cases e
  | _ => cases e
theorem pet_comp {elt tg iter : Expr} {scope : Scope} {own : List (Str × Nat)} {pos : Pos} {fi : En → Option (List D)} {t : Tg} {fe : En → Option D} (hsl : ∀ i ∈ t.slots, i ∈ own.map (·.2)) (hc : X.calm = true) (hN : X.N.Nodup) (hi : PI X tg iter (iD X.kf fi)) (ok : BlkOk X.N X.env.scope scope own)
    (hg : ∀ (s : Shared) (H : Hp) (C : Addr) (cl : List (Str × Addr)) (fp : List Addr), PG (X.blk s H scope (compEnvC scope cl C X.env) fp) tg (gD X.kf t))
    (he : ∀ (s : Shared) (H : Hp) (C : Addr) (cl : List (Str × Addr)) (fp : List Addr), PET (X.blk s H scope (compEnvC scope cl C X.env) fp) elt (tD X.kf fe)) (hs : ∀ x, foldedSetIterable iter X.env x = pure x) :
    PET X (.ListComp elt [⟨tg, iter, [], 0⟩] scope pos) (tD X.kf (fz (gcomp (own.map (·.2)) fi t gyes fe))) := PETi (pet_lcK hc hN hi ok hg (fun _ _ _ _ _ => pts_yes) he hs) fun σ H Q h => by
  obtain ⟨P, F, ρ, d, vw, e, k⟩ := h
  obtain ⟨ys, ey, e⟩ := Option.map_eq_some_iff.mp e
  subst e
  exact tLc_d hsl ⟨P, F, ρ, ys, vw, ey, fun a vs F' H' g n nf el q => k _ _ _ (g.freeze n nf el) (.lst upd_same (q.same (same_upd nf)))⟩
theorem pet_tuple {e : Expr} {p pos : Pos} {f : En → Option D} (hg : Gl X "tuple") (hm : X.mg "tuple" = none) (he : PET X e (tD X.kf f)) (hst : starEach [e] X.env = [(false, eval e X.env)]) : PET X (.Call (.Name "tuple" p) [e] [] pos) (tD X.kf (bindS tupD (gcons f gnil))) :=
  PETi (pet_callTy cd_tuple hg hm (by decide +kernel) he (by decide) (by decide) hst rfl) fun σ H Q h => by
    obtain ⟨P, F, ρ, d, vw, e, k⟩ := h
    obtain ⟨xs, ex, e⟩ := bind_some_iff e
    obtain ⟨x, e1, ex⟩ := bind_some_iff ex
    obtain ⟨ys, e2, ex⟩ := bind_some_iff ex
    cases e2
    cases ex
    exact ⟨P, F, ρ, x, vw, e1, fun v F1 H1 g1 q1 => ⟨F1, [x], d, g1.fh, .cons q1 .nil, e, fun w F2 H2 g2 q2 => k w F2 H2 (g1.trans g2) q2⟩⟩
theorem pst_asg {i : Nat} {x : Str} {e : Expr} {p pos : Pos} {fe : En → Option D} (hN : X.N.Nodup) (hi : X.N[i]? = some x) (hx : L2.Loc X.env.scope x) (he : PET X e (tD X.kf fe)) (hs : swapsWith e (some (.Name x p)) pos.line X.env = pure false) (hf : X.fn x = true ∨ X.env.scope.names.lookup x = some .local) :
    PST X (.Assign [.Name x p] e pos) (sD X.kf (gasg (.nm i) fe)) := PSTi (pst_set hN hi hx he hs hf) fun E σ H h => by
  obtain ⟨W, F, ρ, r, sg, e, k⟩ := h
  obtain ⟨d, ed, e⟩ := bind_some_iff e
  obtain ⟨ρ', eρ, rfl⟩ := Option.map_eq_some_iff.mp e
  exact ⟨_, F, ρ, d, sg.vw, ed, fun v F' H' g q => by
    cases eρ
    exact k _ F' H' ⟨sg.ok.grow g, (sg.vw.grow g).set q⟩⟩
theorem psdT_cons {st : Stmt} {rest : List Stmt} {g gs : En → Option Res} (h1 : PST X st (sD X.kf g)) (h2 : PSsT X rest (sD X.kf gs)) : PSsT X (st :: rest) (sD X.kf (gseq g gs)) := PSsTi (psst_cons h1 h2) fun E σ H h => by
  obtain ⟨W, F, ρ, r, sg, e, k⟩ := h
  obtain ⟨r1, e1, e⟩ := bind_some_iff e
  refine ⟨W, F, ρ, r1, sg, e1, ?_⟩
  cases r1 with
  | nx ρ' => exact fun σ' F' H' sg' => ⟨W, F', ρ', r, sg', e, k⟩
  | rt d =>
    cases e
    exact k
theorem psdT_frz {rest : List Stmt} {i : Nat} {gs : En → Option Res} (h : PSsT X rest (sD X.kf gs)) : PSsT X rest (sD X.kf (fun ρ => (gfrz i ρ).bind gs)) := PSsTi h fun E σ H h => by
  obtain ⟨W, F, ρ, r, sg, e, k⟩ := h
  obtain ⟨ρ', e1, e⟩ := bind_some_iff e
  unfold gfrz at e1
  split at e1
  · cases e1
    obtain ⟨F', sg'⟩ := sg.frz (by assumption)
    exact ⟨W, F', _, r, sg', e, k⟩
  · cases e1
theorem pstd_if {c : Expr} {sa sb : List Stmt} {f : En → Option Bool} {ga gb : En → Option Res} {pos : Pos} (hc : PT X c (tDT X.kf f)) (ha : PSsT X sa (sD X.kf ga)) (hb : PSsT X sb (sD X.kf gb)) : PST X (.If c sa sb pos) (sD X.kf (gitS f ga gb)) := PSTi (CwR.pst_if hc ha hb) fun E σ H h => by
  obtain ⟨W, F, ρ, r, sg, e, k⟩ := h
  obtain ⟨b, eb, e⟩ := bind_some_iff e
  refine ⟨_, F, ρ, b, sg.vw, eb, fun F' H' g => ?_⟩
  cases b with
  | true => exact ⟨W, F', ρ, r, sg.grow g, e, k⟩
  | false => exact ⟨W, F', ρ, r, sg.grow g, e, k⟩
theorem pstd_for {tg iter : Expr} {body : List Stmt} {t : Tg} {fi : En → Option (List D)} {gb : En → Option Res} {pos : Pos} (hp : PassesOwn (model X.prog X.w) X.A X.env X.xe) (hc : X.calm = true) (hi : PI X tg iter (iD X.kf fi)) (hg : PG X tg (gD X.kf t)) (hb : PSsT X body (sD X.kf gb)) (hs : ∀ x, foldedSetIterable iter X.env x = pure x) :
    PST X (.For tg iter body [] pos) (sD X.kf (gfor t fi gb)) := PSTi (pst_forK hp hc hi hg hb hs) fun _ _ _ h => tFor_d h
end
/-- values that want a token -/
def chkR (S : PIn) (c : SC) : ME → Expr → Bool
  | .rpl y z a, e => match e with
    | .Call (.Attribute o nm ap) [.Constant (.str ys) _ _, .Constant (.str zs) _ _] [] pos => decide (nm = "replace") && decide (TL.tl ys = [y]) && decide (TL.tl zs = [z]) && !(ys == zs) && nbase o && (ap.endLine == pos.line) && chkR S c a o
    | _ => false
  | m, e => chkE S c m e
mutual
def chkK (S : PIn) (c : SC) : MS → Stmt → Bool
  | .asgK i elt t2 it, s => match s with
    | .Assign [.Name x _] (.Call (.Name y _) [.ListComp ee [⟨tg, ei, [], as⟩] scope _] [] _) _ => decide (c.N[i]? = some x) && c.sto x && decide (y = "tuple") && c.gl y && decide (("tuple" : Str) ∈ S.bn) &&
        decide (as = 0) && decide (scope.kind = .function) && blkC c.N (scOf c) scope (ownOf c t2) && nset ei && chkT (c.blk scope) t2 tg && chkI S c tg it ei && chkR S (c.blk scope) elt ee
    | _ => false
  | .ite d a b, s => match s with
    | .If ed sa sb _ => chkE S c d ed && d.tst && chkKs S c a sa && chkKs S c b sb
    | _ => false
  | .for_ t it body, s => match s with
    | .For tg ei sb [] _ => nset ei && chkT c t tg && chkI S c tg it ei && chkKs S c body sb
    | _ => false
  | .asg t e, s => chkS S c (.asg t e) s
  | .setL i es, s => chkS S c (.setL i es) s
  | .app i e, s => chkS S c (.app i e) s
  | .ret e, s => chkS S c (.ret e) s
  | _, _ => false
def chkKs (S : PIn) (c : SC) : MSs → List Stmt → Bool
  | .nil, ss => ss.isEmpty
  | .cons m r, ss => match ss with
    | s :: rest => chkK S c m s && chkKs S c r rest
    | [] => false
  | .frz _ r, ss => chkKs S c r ss
  | .frzM _ _, _ => false
end
section
variable {S : PIn} {G : Nat → List D → Option D} {k : Nat}
theorem sndR : ∀ (m : ME) {X : Cx} {c : SC} {e : Expr}, Cok S G k X c → chkR S c m e = true → PET X e (tD X.kf (ev S G m))
  | m, X, c, e, hX, h => by
    unfold chkR at h
    split at h
    · rename_i y z a
      split at h
      · simp only [Bool.and_eq_true, decide_eq_true_eq, Bool.not_eq_true'] at h
        obtain ⟨⟨⟨⟨⟨⟨rfl, h1⟩, h2⟩, h3⟩, h4⟩, h5⟩, h6⟩ := h
        rw [ev]
        exact pet_rpl h1 h2 h3 (sndR a hX h6) (base_of h4) h5
      · cases h
    · exact CwR.PET.of (sndE m hX h).1
mutual
theorem sndK : ∀ (m : MS) {X : Cx} {c : SC} {s : Stmt}, Cok S G k X c → PassesOwn (model X.prog X.w) X.A X.env X.xe → chkK S c m s = true → PST X s (sD X.kf (ex S G m))
  | .asgK i elt t it, X, c, s, hX, hP, h => by
    unfold chkK at h
    split at h
    · simp only [Bool.and_eq_true, decide_eq_true_eq] at h
      obtain ⟨⟨⟨⟨⟨⟨⟨⟨⟨⟨⟨h1, h2⟩, rfl⟩, h4⟩, h5⟩, rfl⟩, h7⟩, h8⟩, h9⟩, h10⟩, h11⟩, h12⟩ := h
      obtain ⟨q1, q2⟩ := hX.sto h2
      rw [ex]
      have := fun pos : Pos => pet_comp (pos := pos) (own := ownOf c t) (fun i hi => by rw [ownOf_slots]; exact hi) hX.calm hX.nd' (sndI it hX h11) (hX.blkOk h8) (fun s H C cl fp => sndT t (hX.blk h7 s H C cl fp) h10) (fun s H C cl fp => sndR elt (hX.blk h7 s H C cl fp) h12) (fold_of h9)
      rw [ownOf_slots] at this
      exact pst_asg hX.nd' (by rw [hX.N]; exact h1) q1 (pet_tuple (hX.gl h4).1 (hX.bn _ h5) (this _) rfl) (sw_none rfl) q2
    · cases h
  | .ite d a b, X, c, s, hX, hP, h => by
    unfold chkK at h
    split at h
    · simp only [Bool.and_eq_true] at h
      rw [ex]
      exact pstd_if ((sndE d hX h.1.1.1).2 h.1.1.2) (sndKs a hX hP h.1.2) (sndKs b hX hP h.2)
    · cases h
  | .for_ t it body, X, c, s, hX, hP, h => by
    unfold chkK at h
    split at h
    · simp only [Bool.and_eq_true] at h
      rw [ex]
      exact pstd_for hP hX.calm (sndI it hX h.1.2) (sndT t hX h.1.1.2) (sndKs body hX hP h.2) (fold_of h.1.1.1)
    · cases h
  | .asg t e, X, c, s, hX, hP, h => PST.of (sndS _ hX hP (by rw [chkK] at h; exact h))
  | .setL i es, X, c, s, hX, hP, h => PST.of (sndS _ hX hP (by rw [chkK] at h; exact h))
  | .app i e, X, c, s, hX, hP, h => PST.of (sndS _ hX hP (by rw [chkK] at h; exact h))
  | .ret e, X, c, s, hX, hP, h => PST.of (sndS _ hX hP (by rw [chkK] at h; exact h))
  | .setK _ _ _, _, _, _, _, _, h => by (unfold chkK at h; cases h)
  | .setC _ _ _ _ _, _, _, _, _, _, h => by (unfold chkK at h; cases h)
  | .par _ _ _ _, _, _, _, _, _, h => by (unfold chkK at h; cases h)
  | .retN, _, _, _, _, _, h => by (unfold chkK at h; cases h)
  | .extC _ _ _ _ _, _, _, _, _, _, h => by (unfold chkK at h; cases h)
  | .try_ _, _, _, _, _, _, h => by (unfold chkK at h; cases h)
  | .nvr, _, _, _, _, _, h => by (unfold chkK at h; cases h)
  | .setM _, _, _, _, _, _, h => by (unfold chkK at h; cases h)
  | .put _ _ _, _, _, _, _, _, h => by (unfold chkK at h; cases h)
  | .whl _ _ _, _, _, _, _, _, h => by (unfold chkK at h; cases h)
  | .pop0 _ _, _, _, _, _, _, h => by (unfold chkK at h; cases h)
  | .forP _ _ _ _ _, _, _, _, _, _, h => by (unfold chkK at h; cases h)
  | .mov _ _, _, _, _, _, _, h => by (unfold chkK at h; cases h)
  | .setM1 _ _ _, _, _, _, _, _, h => by (unfold chkK at h; cases h)
  | .par3 _ _ _ _ _ _, _, _, _, _, _, h => by (unfold chkK at h; cases h)
  | .setCL _ _ _ _ _, _, _, _, _, _, h => by (unfold chkK at h; cases h)
  | .set2L _ _, _, _, _, _, _, h => by (unfold chkK at h; cases h)
  | .mkT _ _, _, _, _, _, _, h => by (unfold chkK at h; cases h)
  | .layT _ _, _, _, _, _, _, h => by (unfold chkK at h; cases h)
  | .bakT _, _, _, _, _, _, h => by (unfold chkK at h; cases h)
  | .mk2T _ _ _, _, _, _, _, _, h => by (unfold chkK at h; cases h)
  | .tolT _ _ _ _, _, _, _, _, _, h => by (unfold chkK at h; cases h)
  | .mkTs _ _ _ _, _, _, _, _, _, h => by (unfold chkK at h; cases h)
  | .set2W _ _, _, _, _, _, _, h => by (unfold chkK at h; cases h)
  | .appW _ _ _, _, _, _, _, _, h => by (unfold chkK at h; cases h)
  | .appV _ _ _ _ _, _, _, _, _, _, h => by (unfold chkK at h; cases h)
  | .lonW _ _ _ _ _ _ _, _, _, _, _, _, h => by (unfold chkK at h; cases h)
  | .whE _ _ _, _, _, _, _, _, h => by (unfold chkK at h; cases h)
theorem sndKs : ∀ (m : MSs) {X : Cx} {c : SC} {ss : List Stmt}, Cok S G k X c → PassesOwn (model X.prog X.w) X.A X.env X.xe → chkKs S c m ss = true → PSsT X ss (sD X.kf (exs S G m))
  | .nil, X, c, ss, hX, hP, h => by
    unfold chkKs at h
    cases ss with
    | nil =>
      rw [exs]
      exact PSsT.of psd_nil
    | cons _ _ => cases h
  | .cons m r, X, c, ss, hX, hP, h => by
    unfold chkKs at h
    split at h
    · simp only [Bool.and_eq_true] at h
      rw [exs]
      exact psdT_cons (sndK m hX hP h.1) (sndKs r hX hP h.2)
    · cases h
  | .frz i r, X, c, ss, hX, hP, h => by
    unfold chkKs at h
    rw [exs]
    exact psdT_frz (sndKs r hX hP h)
  | .frzM i r, X, c, ss, hX, hP, h => by
    unfold chkKs at h
    cases h
end
end
end DL
end
section
namespace DL
open PySem PySem.Spec L2
open PyProof.Rows hiding St

/-! ### a program -/
structure MD where
  name : Str
  ps : List Str
  N : List Str
  body : MSs
def en0 (n : Nat) (ds : List D) : En := ds.map .d ++ List.replicate (n - ds.length) .no
def runD (S : PIn) (G : Nat → List D → Option D) (d : MD) (ds : List D) : Option D := if ds.length = d.ps.length then
    match exs S G d.body (en0 d.N.length ds) with
    | some (.rt x) => some x
    | some (.nx _) => some .non
    | none => none
  else none
inductive Df where
  | code (d : MD)
  | giv (name : Str) (n lv : Nat) (g : List D → Option D)
  | lev (name : Str) (n : Nat) (g : (Nat → List D → Option D) → List D → Option D)
def Df.sig : Df → Str × Nat
  | .code d => (d.name, d.ps.length)
  | .giv x n _ _ => (x, n)
  | .lev x n _ => (x, n)
/-- the number of a drawn deed -/
def livN (G : Nat → List D → Option D) (j : Nat) (c : D) : Option D := (G j [c, .int 9857, .int 4]).bind fun m => (eqD m (.int 0)).bind fun b => (bool1 b).bind fun b => if b then some .non else G j [c, .int 9859, .int 5]
/-- what a table tells of a drawn deed, its row and overs behind it -/
def livE (S : PIn) (G : Nat → List D → Option D) : List D → Option D
  | [d, r, .lst os, c] => (livN G S.jm c).bind fun n => (gTold (G 1004) (G 1003) d r os n).bind fun z => (G 1002 [d]).bind fun _ => (atI z.2.2 (-1)).bind fun o => (comD z.2.1 z.2.2).bind fun b => some (.tup [.tup [z.1, z.2.1, o, b], z.2.1, .lst z.2.2])
  | _ => none
def Gn (S : PIn) (defs : List Df) : Nat → Nat → List D → Option D
  | 0, _, _ => none
  | n + 1, j, ds => match defs[j]? with
    | some (.code d) => runD S (Gn S defs n) d ds
    | some (.giv _ _ lv g) => if lv ≤ n + 1 then g ds else none
    | some (.lev _ _ g) => (match n with | 0 => none | m + 1 => g (Gn S defs m) ds)
    | none => if j = 1000 then Gn S defs n S.jn ds else if j = 1001 then Gn S defs n S.js ds else if j = 1002 ∧ 1 ≤ n then ds.head? else if j = 1003 then Gn S defs n 1000 ds else if j = 1004 then Gn S defs n 1002 ds else if j = 1005 then livE S (Gn S defs n) ds else none
def scD (d : MD) (st : Stmt) : SC := { N := d.N, names := (defScope st).names, own := none }
def scopeB (N ps : List Str) (sc : Scope) : Bool := decide (sc.kind = .function) && !sc.isCoroutine && !sc.isGenerator && decide N.Nodup && decide (N.take ps.length = ps) && (ps.all fun x => decide (sc.names.lookup x = some .local) || decide (sc.names.lookup x = some .cell)) && (sc.names.all fun y => decide (y.2 ≠ .free))
theorem scopeB_ok {N ps : List Str} {sc : Scope} (h : scopeB N ps sc = true) : FnScope N ps sc := by
  unfold scopeB at h
  simp only [Bool.and_eq_true, decide_eq_true_eq, Bool.not_eq_true', List.all_eq_true, Bool.or_eq_true] at h
  obtain ⟨⟨⟨⟨⟨⟨h1, h2⟩, h3⟩, h4⟩, h5⟩, h6⟩, h7⟩ := h
  exact ⟨h1, h2, h3, h4, h5, h6, h7⟩
def defB (S : PIn) (d : MD) (st : Stmt) : Bool := scopeB d.N d.ps (defScope st) && chkSs S (scD d st) d.body (defBody st)

theorem vw_start {K : Kf} {P : Addr → Prop} {F H : Hp} {N : List Str} {vs : List V} {ds : List D} (sf : Same F H) (q : Das K F vs ds) : Vw K P F H (L2.start N vs) (en0 N.length ds) := by
  refine ⟨sf, ?_, fun _ => [], fun i s o e1 e2 => ?_, fun i a _ h => absurd h List.not_mem_nil, fun i j a _ _ h => absurd h List.not_mem_nil⟩
  · unfold L2.start en0
    rw [List.length_append, List.length_append, List.length_map, List.length_map, List.length_replicate, List.length_replicate, q.length]
  · unfold L2.start at e2
    unfold en0 at e1
    by_cases hi : i < ds.length
    · rw [List.getElem?_append_left (by rw [List.length_map]; exact hi), List.getElem?_map] at e1
      rw [List.getElem?_append_left (by rw [List.length_map, q.length]; exact hi), List.getElem?_map] at e2
      obtain ⟨d, ed, rfl⟩ := Option.map_eq_some_iff.mp e1
      obtain ⟨v, ev, rfl⟩ := Option.map_eq_some_iff.mp e2
      obtain ⟨v', ev', qv⟩ := q.get ed
      rw [ev] at ev'
      cases ev'
      exact .inr ⟨v, rfl, qv, rfl⟩
    · rw [List.getElem?_append_right (by rw [List.length_map]; omega), List.getElem?_replicate] at e1
      split at e1
      · cases e1
        exact .inl ⟨rfl, rfl⟩
      · cases e1

section
variable {P : Program} {w : World} {K : PySem.W.Frag} {mg : Str → Option Value} {base : Heap}
/-- a def of the text stands at f -/
structure DefAt (K : PySem.W.Frag) (mg : Str → Option Value) (x : Str) (ps : List Str) (st : Stmt) (f : Addr) (fd : FuncData) : Prop where
  fn : Fun K x x st f fd
  gl : mg x = some (.ref f)
  bd : Binds K fd ps []
structure ModOk (S : PIn) (K : Kf) (mg : Str → Option Value) : Prop where
  bn : ∀ x ∈ S.bn, mg x = none
  gds : ∀ (j : Nat) x d, S.gds[j]? = some (x, d) → ∃ v u, mg x = some u ∧ RelV v u ∧ ∀ F, Da K F v d
  gdd : ∀ (j : Nat) x ps, S.gdd[j]? = some (x, ps) → ∃ p, mg x = some (.ref p) ∧ KTx K p ps
theorem gr_of {H F F' H' : Hp} (ok : Ok0 ⟨H, F, fun _ => False⟩ F' H') (s : Same F' H') : Gr F H F' H' := ⟨fun b o e => ok.same b o (fun z => z) e, ok.up, s, ok.new⟩
/-- what is known of the tables' methods at level k -/
abbrev TabsOk (P : Program) (w : World) (K : PySem.W.Frag) (mg : Str → Option Value) (base : Heap) (S : PIn) (k : Nat) (G : Nat → List D → Option D) : Prop := S.tab = true → ∃ C, TabOk P w K mg base k (G 1000) (G 1001) (G 1002) S.nf C ∧ (S.tol = true → ToldOk P w K mg base k (G 1004) (G 1003) C) ∧ (S.liv = true → LivOk P w K mg base k (G 1005) C)
abbrev FnsOk (P : Program) (w : World) (K : PySem.W.Frag) (mg : Str → Option Value) (base : Heap) (S : PIn) (k : Nat) (G : Nat → List D → Option D) : Prop := ∀ (j : Nat) x n, S.fns[j]? = some (x, n) → ∃ f fd ps, FnOk P w K mg base CX0 k f fd ps (spD ⟨K, P, w⟩ n (G j)) ∧ mg x = some (.ref f) ∧ PySem.W.keepIn K (.ref f) = true ∧ Binds K fd ps []
/-- one def -/
theorem fn_code {S : PIn} {G : Nat → List D → Option D} {k : Nat} {d : MD} {st : Stmt} {f : Addr} {fd : FuncData} (M : ModOk S ⟨K, P, w⟩ mg) (A : DefAt K mg d.name d.ps st f fd) (hB : defB S d st = true)
    (fns : FnsOk P w K mg base S k G) (tab : TabsOk P w K mg base S k G) :
    FnOk P w K mg base CX0 (k + 1) f fd d.ps (spD ⟨K, P, w⟩ d.ps.length (runD S G d)) := by
  unfold defB at hB
  rw [Bool.and_eq_true] at hB
  have sc := scopeB_ok hB.1
  refine A.fn.ok sc (fun vs H Q E h => h.1) (fun cdv Ar outer s H vs Q E hr h => ?_)
  have hX : Cok S G k (cxOf CX0 P w K mg base d.N d.name (defScope st) f cdv Ar outer s H E).nox (scD d st) := ⟨sc.kind, rfl, rfl, sc.nd, rfl, fun _ _ => rfl, hr, M.bn, M.gds, M.gdd, fns, tab⟩
  refine ⟨_, sndSs d.body hX PassesOwn.never hB.2, ?_⟩
  obtain ⟨hl, F, ds, x, sf, q, e, kk⟩ := h
  unfold runD at e
  have hdl : ds.length = d.ps.length := by rw [← q.length]; exact hl
  rw [if_pos hdl] at e
  have ok0 : Ok0 ⟨H, F, fun _ => False⟩ F H := ⟨fun b o _ z => z, fun b z => z, Same.refl _, fun a o z => .inl z⟩
  split at e
  · rename_i y ey
    cases e
    exact ⟨⟨H, F, fun _ => False⟩, F, _, _, ⟨ok0, vw_start sf q⟩, ey, fun v F' H' o => kk v F' H' (gr_of o.ok o.sub) o.da⟩
  · rename_i ρ ey
    cases e
    exact ⟨⟨H, F, fun _ => False⟩, F, _, _, ⟨ok0, vw_start sf q⟩, ey, fun σ F' H' g => kk .non F' H' (gr_of g.ok g.vw.sub) .non⟩
  · cases e
def defBT (S : PIn) (d : MD) (st : Stmt) : Bool := scopeB d.N d.ps (defScope st) && ((defScope st).names.all fun y => decide (y.2 ≠ .cell)) && decide (1 ≤ d.ps.length) && chkKs S (scD d st) d.body (defBody st)
/-- a def whose body wants a token: its parameters give one -/
theorem fn_codeT {S : PIn} {G : Nat → List D → Option D} {k : Nat} {d : MD} {st : Stmt} {f : Addr} {fd : FuncData} (M : ModOk S ⟨K, P, w⟩ mg) (A : DefAt K mg d.name d.ps st f fd) (hB : defBT S d st = true)
    (fns : FnsOk P w K mg base S k G) (tab : TabsOk P w K mg base S k G) :
    FnOk P w K mg base CX0 (k + 1) f fd d.ps (spD ⟨K, P, w⟩ d.ps.length (runD S G d)) := by
  unfold defBT at hB
  simp only [Bool.and_eq_true, decide_eq_true_eq, List.all_eq_true] at hB
  obtain ⟨⟨⟨h1, h2⟩, h3⟩, h4⟩ := hB
  have sc := scopeB_ok h1
  obtain ⟨oc, od, kV, doc, pm, an, cdv, ct, osl, rfl, lk, hcd⟩ := A.fn.ex
  refine fn_ofT lk hcd sc (fun y hy => by simpa using h2 y hy) h3 (fun vs H Q E h => h.1) (fun Ar outer s H vs Q E hr h => ?_)
  have hX : Cok S G k (cxOf CX0 P w K mg base d.N d.name (defScope st) f cdv Ar outer s H E).nox (scD d st) := ⟨sc.kind, rfl, rfl, sc.nd, rfl, fun _ _ => rfl, hr, M.bn, M.gds, M.gdd, fns, tab⟩
  refine ⟨_, noxT (sndKs d.body hX PassesOwn.never h4), ?_⟩
  obtain ⟨hl, F, ds, x, sf, q, e, kk⟩ := h
  unfold runD at e
  have hdl : ds.length = d.ps.length := by rw [← q.length]; exact hl
  rw [if_pos hdl] at e
  have ok0 : Ok0 ⟨H, F, fun _ => False⟩ F H := ⟨fun b o _ z => z, fun b z => z, Same.refl _, fun a o z => .inl z⟩
  split at e
  · rename_i y ey
    cases e
    exact ⟨⟨H, F, fun _ => False⟩, F, _, _, ⟨ok0, vw_start sf q⟩, ey, fun v F' H' o => kk v F' H' (gr_of o.ok o.sub) o.da⟩
  · rename_i ρ ey
    cases e
    exact ⟨⟨H, F, fun _ => False⟩, F, _, _, ⟨ok0, vw_start sf q⟩, ey, fun σ F' H' g => kk .non F' H' (gr_of g.ok g.vw.sub) .non⟩
  · cases e
theorem fn_none {n : Nat} {f : Addr} {fd : FuncData} {ps : List Str} {k : Nat} : FnOk P w K mg base CX0 k f fd ps (spD ⟨K, P, w⟩ n fun _ => none) :=
  ⟨fun vs H Q E h => by (obtain ⟨_, _, _, _, _, _, e, _⟩ := h; cases e), fun A outer s H args us vs Q E _ _ _ _ h => by (obtain ⟨_, _, _, _, _, _, e, _⟩ := h; cases e)⟩
/-- what is known of each def of a program -/
inductive DfOk (P : Program) (w : World) (K : PySem.W.Frag) (mg : Str → Option Value) (base : Heap) (S : PIn) : Df → Prop
  | code {d : MD} {st : Stmt} {f : Addr} {fd : FuncData} : DefAt K mg d.name d.ps st f fd → defB S d st = true → DfOk P w K mg base S (.code d)
  | codeT {d : MD} {st : Stmt} {f : Addr} {fd : FuncData} : DefAt K mg d.name d.ps st f fd → defBT S d st = true → DfOk P w K mg base S (.code d)
  | giv {x : Str} {n lv : Nat} {g : List D → Option D} {f : Addr} {fd : FuncData} {ps : List Str} : mg x = some (.ref f) → PySem.W.keepIn K (.ref f) = true → Binds K fd ps [] → FnOk P w K mg base CX0 lv f fd ps (spD ⟨K, P, w⟩ n g) → DfOk P w K mg base S (.giv x n lv g)
  | lev {x : Str} {n : Nat} {g : (Nat → List D → Option D) → List D → Option D} {f : Addr} {fd : FuncData} {ps : List Str} : mg x = some (.ref f) → PySem.W.keepIn K (.ref f) = true → Binds K fd ps [] →
      (∀ k G, FnsOk P w K mg base S k G → TabsOk P w K mg base S k G → FnOk P w K mg base CX0 (k + 2) f fd ps (spD ⟨K, P, w⟩ n (g G))) → DfOk P w K mg base S (.lev x n g)
theorem all_ok0 {S : PIn} {defs : List Df} (hS : S.fns = defs.map Df.sig) (all : ∀ d ∈ defs, DfOk P w K mg base S d) : FnsOk P w K mg base S 0 (Gn S defs 0)
  | j, x, n, e => by
    rw [hS, List.getElem?_map] at e
    obtain ⟨d, ed, e⟩ := Option.map_eq_some_iff.mp e
    have hd := all d (List.mem_of_getElem? ed)
    cases hd with
    | code A hB =>
      cases e
      exact ⟨_, _, _, fn_none, A.gl, A.fn.kp, A.bd⟩
    | codeT A hB =>
      cases e
      exact ⟨_, _, _, fn_none, A.gl, A.fn.kp, A.bd⟩
    | giv h1 h2 h3 h4 =>
      cases e
      exact ⟨_, _, _, fn_none, h1, h2, h3⟩
    | lev h1 h2 h3 h4 =>
      cases e
      exact ⟨_, _, _, fn_none, h1, h2, h3⟩
theorem all_ok1 {S : PIn} {defs : List Df} (M : ModOk S ⟨K, P, w⟩ mg) (hS : S.fns = defs.map Df.sig) (all : ∀ d ∈ defs, DfOk P w K mg base S d) {k : Nat} (ih : FnsOk P w K mg base S k (Gn S defs k)) (ht : TabsOk P w K mg base S k (Gn S defs k))
    (ih' : FnsOk P w K mg base S (k - 1) (Gn S defs (k - 1))) (ht' : TabsOk P w K mg base S (k - 1) (Gn S defs (k - 1))) : FnsOk P w K mg base S (k + 1) (Gn S defs (k + 1))
  | j, x, n, e => by
    rw [hS, List.getElem?_map] at e
    obtain ⟨d, ed, e⟩ := Option.map_eq_some_iff.mp e
    have hd := all d (List.mem_of_getElem? ed)
    cases hd with
    | @code d st f fd A hB =>
      cases e
      have : Gn S defs (k + 1) j = runD S (Gn S defs k) d := by
        funext ds
        rw [Gn, ed]
      rw [this]
      exact ⟨f, fd, d.ps, fn_code M A hB ih ht, A.gl, A.fn.kp, A.bd⟩
    | @codeT d st f fd A hB =>
      cases e
      have : Gn S defs (k + 1) j = runD S (Gn S defs k) d := by
        funext ds
        rw [Gn, ed]
      rw [this]
      exact ⟨f, fd, d.ps, fn_codeT M A hB ih ht, A.gl, A.fn.kp, A.bd⟩
    | @giv x n lv g f fd ps h1 h2 h3 h4 =>
      cases e
      by_cases hl : lv ≤ k + 1
      · have : Gn S defs (k + 1) j = g := by
          funext ds
          rw [Gn, ed]
          show (if lv ≤ k + 1 then g ds else none) = g ds
          rw [if_pos hl]
        rw [this]
        exact ⟨f, fd, ps, h4.mono hl, h1, h2, h3⟩
      · have : Gn S defs (k + 1) j = fun _ => none := by
          funext ds
          rw [Gn, ed]
          show (if lv ≤ k + 1 then g ds else none) = none
          rw [if_neg hl]
        rw [this]
        exact ⟨f, fd, ps, fn_none, h1, h2, h3⟩
    | @lev x n g f fd ps h1 h2 h3 h4 =>
      cases e
      cases k with
      | zero =>
        have : Gn S defs 1 j = fun _ => none := by
          funext ds
          rw [Gn, ed]
        rw [this]
        exact ⟨f, fd, ps, fn_none, h1, h2, h3⟩
      | succ m =>
        have : Gn S defs (m + 2) j = g (Gn S defs m) := by
          funext ds
          rw [Gn, ed]
        rw [this]
        exact ⟨f, fd, ps, h4 m _ ih' ht', h1, h2, h3⟩
theorem all_ok' {S : PIn} {defs : List Df} (M : ModOk S ⟨K, P, w⟩ mg) (hS : S.fns = defs.map Df.sig) (all : ∀ d ∈ defs, DfOk P w K mg base S d) (t0 : TabsOk P w K mg base S 0 (Gn S defs 0))
    (ts : ∀ k, FnsOk P w K mg base S k (Gn S defs k) → TabsOk P w K mg base S k (Gn S defs k) → TabsOk P w K mg base S (k + 1) (Gn S defs (k + 1))) : ∀ k : Nat, (FnsOk P w K mg base S k (Gn S defs k) ∧ TabsOk P w K mg base S k (Gn S defs k)) ∧ FnsOk P w K mg base S (k - 1) (Gn S defs (k - 1)) ∧ TabsOk P w K mg base S (k - 1) (Gn S defs (k - 1))
  | 0 => ⟨⟨all_ok0 hS all, t0⟩, all_ok0 hS all, t0⟩
  | k + 1 =>
    have ih := all_ok' M hS all t0 ts k
    ⟨⟨all_ok1 M hS all ih.1.1 ih.1.2 ih.2.1 ih.2.2, ts k ih.1.1 ih.1.2⟩, ih.1⟩
theorem all_ok {S : PIn} {defs : List Df} (M : ModOk S ⟨K, P, w⟩ mg) (hS : S.fns = defs.map Df.sig) (all : ∀ d ∈ defs, DfOk P w K mg base S d) (t0 : TabsOk P w K mg base S 0 (Gn S defs 0))
    (ts : ∀ k, FnsOk P w K mg base S k (Gn S defs k) → TabsOk P w K mg base S k (Gn S defs k) → TabsOk P w K mg base S (k + 1) (Gn S defs (k + 1))) (k : Nat) : FnsOk P w K mg base S k (Gn S defs k) ∧ TabsOk P w K mg base S k (Gn S defs k) := (all_ok' M hS all t0 ts k).1
theorem no_tab {S : PIn} {k : Nat} {G : Nat → List D → Option D} (h : S.tab = false) : TabsOk P w K mg base S k G := fun z => by rw [h] at z; cases z
theorem Gn_1000 {S : PIn} {defs : List Df} {n : Nat} {ds : List D} (h : defs[1000]? = none) : Gn S defs (n + 1) 1000 ds = Gn S defs n S.jn ds := by
  rw [Gn, h]
  rfl
theorem Gn_1001 {S : PIn} {defs : List Df} {n : Nat} {ds : List D} (h : defs[1001]? = none) : Gn S defs (n + 1) 1001 ds = Gn S defs n S.js ds := by
  rw [Gn, h]
  rfl
theorem Gn_1002 {S : PIn} {defs : List Df} {n : Nat} {d : D} (h : defs[1002]? = none) : Gn S defs (n + 2) 1002 [d] = some d := by
  rw [Gn, h]
  show (if 1002 = 1002 ∧ 1 ≤ n + 1 then some d else none) = some d
  rw [if_pos ⟨rfl, by omega⟩]
theorem Gn_1005 {S : PIn} {defs : List Df} {n : Nat} (h : defs[1005]? = none) : Gn S defs (n + 1) 1005 = livE S (Gn S defs n) := by
  funext ds
  rw [Gn, h]
  rfl
theorem Gn_1003 {S : PIn} {defs : List Df} {n : Nat} (h : defs[1003]? = none) : Gn S defs (n + 1) 1003 = Gn S defs n 1000 := by
  funext ds
  rw [Gn, h]
  rfl
theorem Gn_1004 {S : PIn} {defs : List Df} {n : Nat} (h : defs[1004]? = none) : Gn S defs (n + 1) 1004 = Gn S defs n 1002 := by
  funext ds
  rw [Gn, h]
  rfl
end
end DL
end
section
namespace DL
open PySem PySem.Spec L2
open PyProof.Rows hiding St
/-- a def of the top, as the head tells it -/
structure FAt (K : PySem.W.Frag) (x : Str) (st : Stmt) (f : Addr) (oc kV dc pm cd ct : Value) (od an : Option Addr) (sl : Array (Option Value)) : Prop where
  a : PySem.W.nsIn K mainGlobals x = some (some (.ref f))
  l : K.lookup f = some ⟨oc, od, .func (PySem.W.fnOf x x (defArgs st) (defBody st) (defScope st) .none kV dc pm an cd ct), sl⟩
  c : PySem.W.codeIn K cd x = true
  k : PySem.W.keepIn K (.ref f) = true
section
variable {P : Program} {w : World} {K : PySem.W.Frag} {h : Heap} {mg : Str → Option Value} {x : Str} {st : Stmt} {f : Addr} {oc kV dc pm cd ct : Value} {od an : Option Addr} {sl : Array (Option Value)}
theorem FAt.at (A : FAt K x st f oc kV dc pm cd ct od an sl) (X : K.In h) (G : h.Ns mainGlobals mg) {ps : List Str}
    (hb : ∀ (kV doc pm : Value) (an : Option Addr) (cdv ct : Value) (us : List Value), us.length = ps.length → bindArgs (PySem.W.fnOf x x (defArgs st) (defBody st) (defScope st) .none kV doc pm an cdv ct) ⟨us, []⟩ = pure (ps.zip us)) :
    DefAt K mg x ps st f (PySem.W.fnOf x x (defArgs st) (defBody st) (defScope st) .none kV dc pm an cd ct) :=
  have F := fun_mk (st := st) A.l A.c A.k
  ⟨F, PySem.W.mg_of X G A.a, F.binds hb⟩
/-- a constant of the top -/
structure GAt (K : PySem.W.Frag) (P : Program) (w : World) (x : Str) (d : D) : Prop where
  ex : ∃ u v, PySem.W.nsIn K mainGlobals x = some (some u) ∧ RelV v u ∧ ∀ F, Da ⟨K, P, w⟩ F v d
theorem GAt.int {i : Int} {t : Tok} (a : PySem.W.nsIn K mainGlobals x = some (some (.int i t))) : GAt K P w x (.int i) := ⟨_, .int i, a, ⟨t, rfl⟩, fun _ => .int i⟩
theorem GAt.str {y : Str} {l : List Nat} {t : Tok} (a : PySem.W.nsIn K mainGlobals x = some (some (.str y t))) (e : TL.tl y = l) : GAt K P w x (.str l) := by
  subst e
  refine ⟨_, .str y, a, ⟨t, rfl⟩, fun F => ?_⟩
  have := Da.str (K := ⟨K, P, w⟩) (F := F) (TL.tl y)
  rw [mkS_tl] at this
  exact this
theorem GAt.tup2s {b : Addr} {dd : Option Addr} {y z : Str} {t u : Tok} {n : Nat} {sl : Array (Option Value)} {l m : List Nat} (a : PySem.W.nsIn K mainGlobals x = some (some (.ref b)))
    (k : K.lookup b = some ⟨.type "tuple", dd, .seq #[.str y t, .str z u] n, sl⟩) (e : TL.tl y = l) (e' : TL.tl z = m) : GAt K P w x (.tup [.str l, .str m]) := by
  subst e
  subst e'
  have es : ∀ (F : Hp) (y : Str), Da ⟨K, P, w⟩ F (.str y) (.str (TL.tl y)) := fun F y => by
    have := Da.str (K := ⟨K, P, w⟩) (F := F) (TL.tl y)
    rw [mkS_tl] at this
    exact this
  exact ⟨_, .ref b, a, rfl, fun F => .tup (vs := [.str y, .str z]) (.inr ⟨_, _, n, k, rfl, rfl, by show 2 ≤ sizeLine; decide, .cons ⟨t, rfl⟩ (.cons ⟨u, rfl⟩ .nil)⟩) (.cons (es F y) (.cons (es F z) .nil))⟩
/-- a dict of the top, from text to text -/
structure GDx (K : PySem.W.Frag) (P : Program) (w : World) (x : Str) (ps : List (List Nat × List Nat)) : Prop where
  ex : ∃ p, PySem.W.nsIn K mainGlobals x = some (some (.ref p)) ∧ KTx ⟨K, P, w⟩ p ps
theorem GDx.two {p : Addr} {es : Array DictEntry} {n : Nat} {k1 k2 y1 y2 : Str} {t1 t2 : Tok} {a1 a2 b1 b2 : List Nat} (a : PySem.W.nsIn K mainGlobals x = some (some (.ref p))) (k : K.lookup p = some { cls := .type "dict", data := .dict es n }) (kl : PySem.W.KeysLit w.params es.toList)
    (h1 : PySem.W.nsIn K p k1 = some (some (.str y1 t1))) (h2 : PySem.W.nsIn K p k2 = some (some (.str y2 t2))) (e1 : TL.tl k1 = a1) (f1 : TL.tl y1 = b1) (e2 : TL.tl k2 = a2) (f2 : TL.tl y2 = b2) : GDx K P w x [(a1, b1), (a2, b2)] := by
  subst e1
  subst e2
  subst f1
  subst f2
  refine ⟨p, a, fun q hq => ?_⟩
  simp only [List.mem_cons, List.not_mem_nil, or_false] at hq
  rcases hq with rfl | rfl
  · show KDct K w p (mkS (TL.tl k1)) (.str (mkS (TL.tl y1)))
    rw [mkS_tl, mkS_tl]
    exact ⟨es, n, _, k, kl, h1, ⟨t1, rfl⟩⟩
  · show KDct K w p (mkS (TL.tl k2)) (.str (mkS (TL.tl y2)))
    rw [mkS_tl, mkS_tl]
    exact ⟨es, n, _, k, kl, h2, ⟨t2, rfl⟩⟩
theorem modOk_ofD {S : PIn} (X : K.In h) (G : h.Ns mainGlobals mg) (hb : ∀ x ∈ S.bn, PySem.W.nsIn K mainGlobals x = some none) (hg : ∀ p ∈ S.gds, GAt K P w p.1 p.2) (hd : ∀ p ∈ S.gdd, GDx K P w p.1 p.2) : ModOk S ⟨K, P, w⟩ mg := by
  refine ⟨fun x hx => PySem.W.mg_none_of X G (hb x hx), fun j x d e => ?_, fun j x ps e => ?_⟩
  · obtain ⟨u, v, a, r, q⟩ := (hg (x, d) (List.mem_of_getElem? e)).ex
    exact ⟨v, u, PySem.W.mg_of X G a, r, q⟩
  · obtain ⟨p, a, q⟩ := (hd (x, ps) (List.mem_of_getElem? e)).ex
    exact ⟨p, PySem.W.mg_of X G a, q⟩
theorem modOk_of {S : PIn} (X : K.In h) (G : h.Ns mainGlobals mg) (hb : ∀ x ∈ S.bn, PySem.W.nsIn K mainGlobals x = some none) (hg : ∀ p ∈ S.gds, GAt K P w p.1 p.2) (e0 : S.gdd = [] := by rfl) : ModOk S ⟨K, P, w⟩ mg :=
  modOk_ofD X G hb hg fun p hp => by rw [e0] at hp; cases hp
end
/-- the end of a law: what its def answers -/
theorem sp_end {K : Kf} {H : Hp} {a : Addr} {ns : List Int} {g : List D → Option D} (hS : SqL K H a (ns.map V.int)) (e : g [.scr ns] = some (.bl true)) : spD K 1 g [V.ref a] H (fun v _ => v = V.bl true) fun _ _ _ => False :=
  ⟨rfl, H, [.scr ns], .bl true, Same.refl _, .cons (.scr hS) .nil, e, fun v F' H' _ q => by cases q; rfl⟩
end DL
end
section
namespace DL
open PySem PySem.Spec L2

/-! ### evaluation, step by step -/
theorem obs {α β : Type} {f : α → Option β} {x : α} : (some x).bind f = f x := (rfl)
theorem obn {α β : Type} {f : α → Option β} : (none : Option α).bind f = none := (rfl)
theorem oms {α β : Type} {f : α → β} {x : α} : (some x).map f = some (f x) := (rfl)
theorem lca {α : Type} {x : α} {xs ys : List α} : (x :: xs) ++ ys = x :: (xs ++ ys) := (rfl)
theorem lna {α : Type} {ys : List α} : ([] : List α) ++ ys = ys := (rfl)
def finR : Res → Option D
  | .rt x => some x
  | .nx _ => some .non
theorem finR_rt (x : D) : finR (.rt x) = some x := (rfl)
theorem finR_nx (ρ : En) : finR (.nx ρ) = some .non := (rfl)
theorem runD_eq {S : PIn} {G : Nat → List D → Option D} {d : MD} {ds : List D} (h : ds.length = d.ps.length) : runD S G d ds = (exs S G d.body (en0 d.N.length ds)).bind finR := by
  unfold runD
  rw [if_pos h]
  cases exs S G d.body (en0 d.N.length ds) with
  | none => rfl
  | some r => cases r <;> rfl
theorem Gn_code {S : PIn} {defs : List Df} {n j : Nat} {d : MD} {ds : List D} {ρ : En} (h : defs[j]? = some (.code d)) (hl : ds.length = d.ps.length) (he : en0 d.N.length ds = ρ) : Gn S defs (n + 1) j ds = (exs S (Gn S defs n) d.body ρ).bind finR := by
  rw [Gn, h]
  show runD S (Gn S defs n) d ds = _
  rw [runD_eq hl, he]
section
variable {S : PIn} {G : Nat → List D → Option D} {ρ : En} {a b c : ME} {es : MEs}
theorem gv_0 {x : D} {r : En} : gv 0 (.d x :: r) = some x := (rfl)
theorem gv_s {n : Nat} {s : Sl} {r : En} : gv (n + 1) (s :: r) = gv n r := by
  unfold gv
  rw [List.getElem?_cons_succ]
theorem ev_var {i : Nat} : ev S G (.var i) ρ = gv i ρ := by rw [ev]
theorem ev_non : ev S G .non ρ = some .non := by rw [ev]; rfl
theorem ev_bl {b : Bool} : ev S G (.bl b) ρ = some (.bl b) := by rw [ev]; rfl
theorem ev_int {i : Int} : ev S G (.int i) ρ = some (.int i) := by rw [ev]; rfl
theorem ev_str {l : List Nat} : ev S G (.str l) ρ = some (.str l) := by rw [ev]; rfl
theorem ev_neg {n : Int} : ev S G (.neg n) ρ = some (.int (-n)) := by rw [ev]; rfl
theorem ev_glo {j : Nat} : ev S G (.glo j) ρ = lkG S j ρ := by rw [ev]
theorem ev_bin {op : B2} : ev S G (.bin op a b) ρ = (ev S G a ρ).bind fun x => (ev S G b ρ).bind (op.run x) := by rw [ev]; rfl
theorem ev_cmp {op : C2} : ev S G (.cmp op a b) ρ = (ev S G a ρ).bind fun x => (ev S G b ρ).bind (op.run x) := by rw [ev]; rfl
def chK (f : En → Option D) (ρ : En) (g : D → Option D) : D → Option D
  | .bl true => (f ρ).bind g
  | .bl false => some (.bl false)
  | _ => none
theorem chK_t {f : En → Option D} {g : D → Option D} : chK f ρ g (.bl true) = (f ρ).bind g := (rfl)
theorem chK_f {f : En → Option D} {g : D → Option D} : chK f ρ g (.bl false) = some (.bl false) := (rfl)
theorem ev_chain {op op' : C2} : ev S G (.chain op op' a b c) ρ = (ev S G a ρ).bind fun x => (ev S G b ρ).bind fun y => (op.run x y).bind (chK (ev S G c) ρ (op'.run y)) := by
  rw [ev]
  rfl
def notK (x : D) : Option D := (truD x).bind fun b => some (.bl (!b))
theorem notK_bl {b : Bool} : notK (.bl b) = some (.bl (!b)) := (rfl)
theorem ev_not : ev S G (.not a) ρ = (ev S G a ρ).bind notK := by
  rw [ev]
  show Option.map _ ((ev S G a ρ).bind truD) = (ev S G a ρ).bind notK
  cases ev S G a ρ with
  | none => rfl
  | some x =>
    show Option.map _ (truD x) = (truD x).bind _
    cases truD x <;> rfl
def andK (f : En → Option D) (ρ : En) (x : D) : Bool → Option D
  | true => f ρ
  | false => some x
def orK (f : En → Option D) (ρ : En) (x : D) : Bool → Option D
  | true => some x
  | false => f ρ
theorem andK_t {f : En → Option D} {x : D} : andK f ρ x true = f ρ := (rfl)
theorem andK_f {f : En → Option D} {x : D} : andK f ρ x false = some x := (rfl)
theorem orK_t {f : En → Option D} {x : D} : orK f ρ x true = some x := (rfl)
theorem orK_f {f : En → Option D} {x : D} : orK f ρ x false = f ρ := (rfl)
theorem ev_and : ev S G (.and es) ρ = evAnd S G es ρ := by rw [ev]
theorem ev_or : ev S G (.or es) ρ = evOr S G es ρ := by rw [ev]
theorem evAnd_1 : evAnd S G (.cons a .nil) ρ = ev S G a ρ := by rw [evAnd]
theorem evAnd_2 : evAnd S G (.cons a (.cons b es)) ρ = (ev S G a ρ).bind fun x => (truD x).bind (andK (evAnd S G (.cons b es)) ρ x) := by
  rw [evAnd]
  unfold gand
  congr 1
  funext x
  congr 1
  funext t
  cases t <;> rfl
theorem evOr_1 : evOr S G (.cons a .nil) ρ = ev S G a ρ := by rw [evOr]
theorem evOr_2 : evOr S G (.cons a (.cons b es)) ρ = (ev S G a ρ).bind fun x => (truD x).bind (orK (evOr S G (.cons b es)) ρ x) := by
  rw [evOr]
  unfold gor
  congr 1
  funext x
  congr 1
  funext t
  cases t <;> rfl
def ifE {α : Type} (f g : En → Option α) (ρ : En) : Bool → Option α
  | true => f ρ
  | false => g ρ
theorem ifE_t {α : Type} {f g : En → Option α} : ifE f g ρ true = f ρ := (rfl)
theorem ifE_f {α : Type} {f g : En → Option α} : ifE f g ρ false = g ρ := (rfl)
theorem ev_ite : ev S G (.ite c a b) ρ = (ev S G c ρ).bind fun x => (truD x).bind (ifE (ev S G a) (ev S G b) ρ) := by
  rw [ev]
  unfold gif ft
  cases ev S G c ρ with
  | none => rfl
  | some x =>
    show (truD x).bind _ = (truD x).bind _
    congr 1
    funext t
    cases t <;> rfl
theorem evs_nil : evs S G .nil ρ = some [] := by rw [evs]; rfl
theorem evs_cons : evs S G (.cons a es) ρ = (ev S G a ρ).bind fun x => (evs S G es ρ).bind fun xs => some (x :: xs) := by rw [evs]; rfl
def tupK (xs : List D) : Option D := if xs.length ≤ sizeLine then some (.tup xs) else none
def lstK (xs : List D) : Option D := if xs.length ≤ sizeLine then some (.lst xs) else none
theorem ev_tup : ev S G (.tup es) ρ = (evs S G es ρ).bind tupK := by
  rw [ev]
  unfold gtup
  congr 1
  funext xs
  unfold small tupK
  split <;> rfl
theorem ev_lst : ev S G (.lst es) ρ = (evs S G es ρ).bind lstK := by
  rw [ev]
  unfold fz glst
  cases evs S G es ρ with
  | none => rfl
  | some xs =>
    show Option.map _ (small xs) = lstK xs
    unfold small lstK
    split <;> rfl
theorem tupK_of {xs : List D} (h : xs.length ≤ 16777216) : tupK xs = some (.tup xs) := if_pos h
theorem lstK_of {xs : List D} (h : xs.length ≤ 16777216) : lstK xs = some (.lst xs) := if_pos h
theorem tupK_0 : tupK [] = some (.tup []) := if_pos (by show 0 ≤ sizeLine; decide)
theorem tupK_1 {x0 : D} : tupK [x0] = some (.tup [x0]) := if_pos (by show 1 ≤ sizeLine; decide)
theorem tupK_2 {x0 x1 : D} : tupK [x0, x1] = some (.tup [x0, x1]) := if_pos (by show 2 ≤ sizeLine; decide)
theorem tupK_3 {x0 x1 x2 : D} : tupK [x0, x1, x2] = some (.tup [x0, x1, x2]) := if_pos (by show 3 ≤ sizeLine; decide)
theorem tupK_4 {x0 x1 x2 x3 : D} : tupK [x0, x1, x2, x3] = some (.tup [x0, x1, x2, x3]) := if_pos (by show 4 ≤ sizeLine; decide)
theorem tupK_5 {x0 x1 x2 x3 x4 : D} : tupK [x0, x1, x2, x3, x4] = some (.tup [x0, x1, x2, x3, x4]) := if_pos (by show 5 ≤ sizeLine; decide)
theorem tupK_6 {x0 x1 x2 x3 x4 x5 : D} : tupK [x0, x1, x2, x3, x4, x5] = some (.tup [x0, x1, x2, x3, x4, x5]) := if_pos (by show 6 ≤ sizeLine; decide)
theorem lstK_0 : lstK [] = some (.lst []) := if_pos (by show 0 ≤ sizeLine; decide)
theorem lstK_1 {x0 : D} : lstK [x0] = some (.lst [x0]) := if_pos (by show 1 ≤ sizeLine; decide)
theorem lstK_2 {x0 x1 : D} : lstK [x0, x1] = some (.lst [x0, x1]) := if_pos (by show 2 ≤ sizeLine; decide)
theorem lstK_3 {x0 x1 x2 : D} : lstK [x0, x1, x2] = some (.lst [x0, x1, x2]) := if_pos (by show 3 ≤ sizeLine; decide)
theorem lstK_4 {x0 x1 x2 x3 : D} : lstK [x0, x1, x2, x3] = some (.lst [x0, x1, x2, x3]) := if_pos (by show 4 ≤ sizeLine; decide)
theorem lstK_5 {x0 x1 x2 x3 x4 : D} : lstK [x0, x1, x2, x3, x4] = some (.lst [x0, x1, x2, x3, x4]) := if_pos (by show 5 ≤ sizeLine; decide)
theorem lstK_6 {x0 x1 x2 x3 x4 x5 : D} : lstK [x0, x1, x2, x3, x4, x5] = some (.lst [x0, x1, x2, x3, x4, x5]) := if_pos (by show 6 ≤ sizeLine; decide)
theorem lstK_7 {x0 x1 x2 x3 x4 x5 x6 : D} : lstK [x0, x1, x2, x3, x4, x5, x6] = some (.lst [x0, x1, x2, x3, x4, x5, x6]) := if_pos (by show 7 ≤ sizeLine; decide)
theorem lstK_8 {x0 x1 x2 x3 x4 x5 x6 x7 : D} : lstK [x0, x1, x2, x3, x4, x5, x6, x7] = some (.lst [x0, x1, x2, x3, x4, x5, x6, x7]) := if_pos (by show 8 ≤ sizeLine; decide)
theorem lstK_9 {x0 x1 x2 x3 x4 x5 x6 x7 x8 : D} : lstK [x0, x1, x2, x3, x4, x5, x6, x7, x8] = some (.lst [x0, x1, x2, x3, x4, x5, x6, x7, x8]) := if_pos (by show 9 ≤ sizeLine; decide)
theorem lstK_10 {x0 x1 x2 x3 x4 x5 x6 x7 x8 x9 : D} : lstK [x0, x1, x2, x3, x4, x5, x6, x7, x8, x9] = some (.lst [x0, x1, x2, x3, x4, x5, x6, x7, x8, x9]) := if_pos (by show 10 ≤ sizeLine; decide)
theorem lstK_11 {x0 x1 x2 x3 x4 x5 x6 x7 x8 x9 x10 : D} : lstK [x0, x1, x2, x3, x4, x5, x6, x7, x8, x9, x10] = some (.lst [x0, x1, x2, x3, x4, x5, x6, x7, x8, x9, x10]) := if_pos (by show 11 ≤ sizeLine; decide)
theorem lstK_12 {x0 x1 x2 x3 x4 x5 x6 x7 x8 x9 x10 x11 : D} : lstK [x0, x1, x2, x3, x4, x5, x6, x7, x8, x9, x10, x11] = some (.lst [x0, x1, x2, x3, x4, x5, x6, x7, x8, x9, x10, x11]) := if_pos (by show 12 ≤ sizeLine; decide)
theorem lstK_13 {x0 x1 x2 x3 x4 x5 x6 x7 x8 x9 x10 x11 x12 : D} : lstK [x0, x1, x2, x3, x4, x5, x6, x7, x8, x9, x10, x11, x12] = some (.lst [x0, x1, x2, x3, x4, x5, x6, x7, x8, x9, x10, x11, x12]) := if_pos (by show 13 ≤ sizeLine; decide)
theorem lstK_14 {x0 x1 x2 x3 x4 x5 x6 x7 x8 x9 x10 x11 x12 x13 : D} : lstK [x0, x1, x2, x3, x4, x5, x6, x7, x8, x9, x10, x11, x12, x13] = some (.lst [x0, x1, x2, x3, x4, x5, x6, x7, x8, x9, x10, x11, x12, x13]) := if_pos (by show 14 ≤ sizeLine; decide)
theorem lstK_15 {x0 x1 x2 x3 x4 x5 x6 x7 x8 x9 x10 x11 x12 x13 x14 : D} : lstK [x0, x1, x2, x3, x4, x5, x6, x7, x8, x9, x10, x11, x12, x13, x14] = some (.lst [x0, x1, x2, x3, x4, x5, x6, x7, x8, x9, x10, x11, x12, x13, x14]) := if_pos (by show 15 ≤ sizeLine; decide)
theorem lstK_16 {x0 x1 x2 x3 x4 x5 x6 x7 x8 x9 x10 x11 x12 x13 x14 x15 : D} : lstK [x0, x1, x2, x3, x4, x5, x6, x7, x8, x9, x10, x11, x12, x13, x14, x15] = some (.lst [x0, x1, x2, x3, x4, x5, x6, x7, x8, x9, x10, x11, x12, x13, x14, x15]) := if_pos (by show 16 ≤ sizeLine; decide)
theorem small_0 : small [] = some [] := if_pos (by show 0 ≤ sizeLine; decide)
theorem small_1 {x0 : D} : small [x0] = some [x0] := if_pos (by show 1 ≤ sizeLine; decide)
theorem small_2 {x0 x1 : D} : small [x0, x1] = some [x0, x1] := if_pos (by show 2 ≤ sizeLine; decide)
theorem small_3 {x0 x1 x2 : D} : small [x0, x1, x2] = some [x0, x1, x2] := if_pos (by show 3 ≤ sizeLine; decide)
theorem small_4 {x0 x1 x2 x3 : D} : small [x0, x1, x2, x3] = some [x0, x1, x2, x3] := if_pos (by show 4 ≤ sizeLine; decide)
theorem small_5 {x0 x1 x2 x3 x4 : D} : small [x0, x1, x2, x3, x4] = some [x0, x1, x2, x3, x4] := if_pos (by show 5 ≤ sizeLine; decide)
theorem small_6 {x0 x1 x2 x3 x4 x5 : D} : small [x0, x1, x2, x3, x4, x5] = some [x0, x1, x2, x3, x4, x5] := if_pos (by show 6 ≤ sizeLine; decide)
theorem small_7 {x0 x1 x2 x3 x4 x5 x6 : D} : small [x0, x1, x2, x3, x4, x5, x6] = some [x0, x1, x2, x3, x4, x5, x6] := if_pos (by show 7 ≤ sizeLine; decide)
theorem small_8 {x0 x1 x2 x3 x4 x5 x6 x7 : D} : small [x0, x1, x2, x3, x4, x5, x6, x7] = some [x0, x1, x2, x3, x4, x5, x6, x7] := if_pos (by show 8 ≤ sizeLine; decide)
theorem small_9 {x0 x1 x2 x3 x4 x5 x6 x7 x8 : D} : small [x0, x1, x2, x3, x4, x5, x6, x7, x8] = some [x0, x1, x2, x3, x4, x5, x6, x7, x8] := if_pos (by show 9 ≤ sizeLine; decide)
theorem small_10 {x0 x1 x2 x3 x4 x5 x6 x7 x8 x9 : D} : small [x0, x1, x2, x3, x4, x5, x6, x7, x8, x9] = some [x0, x1, x2, x3, x4, x5, x6, x7, x8, x9] := if_pos (by show 10 ≤ sizeLine; decide)
theorem small_11 {x0 x1 x2 x3 x4 x5 x6 x7 x8 x9 x10 : D} : small [x0, x1, x2, x3, x4, x5, x6, x7, x8, x9, x10] = some [x0, x1, x2, x3, x4, x5, x6, x7, x8, x9, x10] := if_pos (by show 11 ≤ sizeLine; decide)
theorem small_12 {x0 x1 x2 x3 x4 x5 x6 x7 x8 x9 x10 x11 : D} : small [x0, x1, x2, x3, x4, x5, x6, x7, x8, x9, x10, x11] = some [x0, x1, x2, x3, x4, x5, x6, x7, x8, x9, x10, x11] := if_pos (by show 12 ≤ sizeLine; decide)
theorem small_13 {x0 x1 x2 x3 x4 x5 x6 x7 x8 x9 x10 x11 x12 : D} : small [x0, x1, x2, x3, x4, x5, x6, x7, x8, x9, x10, x11, x12] = some [x0, x1, x2, x3, x4, x5, x6, x7, x8, x9, x10, x11, x12] := if_pos (by show 13 ≤ sizeLine; decide)
theorem small_14 {x0 x1 x2 x3 x4 x5 x6 x7 x8 x9 x10 x11 x12 x13 : D} : small [x0, x1, x2, x3, x4, x5, x6, x7, x8, x9, x10, x11, x12, x13] = some [x0, x1, x2, x3, x4, x5, x6, x7, x8, x9, x10, x11, x12, x13] := if_pos (by show 14 ≤ sizeLine; decide)
theorem small_15 {x0 x1 x2 x3 x4 x5 x6 x7 x8 x9 x10 x11 x12 x13 x14 : D} : small [x0, x1, x2, x3, x4, x5, x6, x7, x8, x9, x10, x11, x12, x13, x14] = some [x0, x1, x2, x3, x4, x5, x6, x7, x8, x9, x10, x11, x12, x13, x14] := if_pos (by show 15 ≤ sizeLine; decide)
theorem small_16 {x0 x1 x2 x3 x4 x5 x6 x7 x8 x9 x10 x11 x12 x13 x14 x15 : D} : small [x0, x1, x2, x3, x4, x5, x6, x7, x8, x9, x10, x11, x12, x13, x14, x15] = some [x0, x1, x2, x3, x4, x5, x6, x7, x8, x9, x10, x11, x12, x13, x14, x15] := if_pos (by show 16 ≤ sizeLine; decide)
theorem dtt : decide (true = true) = true := (rfl)
theorem dtf : decide (true = false) = false := (rfl)
theorem dft : decide (false = true) = false := (rfl)
theorem dff : decide (false = false) = true := (rfl)
theorem bnt : (!true) = false := (rfl)
theorem bnf : (!false) = true := (rfl)
theorem ev_cat : ev S G (.cat a b) ρ = (ev S G a ρ).bind fun x => (ev S G b ρ).bind fun y => (catL x y).map .lst := by
  rw [ev]
  unfold fz gcat
  cases ev S G a ρ with
  | none => rfl
  | some x =>
    show Option.map _ ((ev S G b ρ).bind _) = (ev S G b ρ).bind _
    cases ev S G b ρ <;> rfl
theorem ev_idx : ev S G (.idx a b) ρ = (ev S G a ρ).bind fun x => (ev S G b ρ).bind (idxD x) := by rw [ev]; rfl
theorem ev_slc {lo hi : MO} : ev S G (.slc a lo hi) ρ = (ev S G a ρ).bind fun x => (evO S G lo ρ).bind fun l => (evO S G hi ρ).bind fun h => slcD l h x := by rw [ev]; rfl
theorem evO_none : evO S G .none ρ = some none := by rw [evO]; rfl
def oK : D → Option (Option Int)
  | .int i => some (some i)
  | _ => none
theorem oK_int {i : Int} : oK (.int i) = some (some i) := (rfl)
theorem evO_some : evO S G (.some a) ρ = (ev S G a ρ).bind oK := by
  rw [evO]
  unfold goS
  congr 1
theorem ev_call {j : Nat} : ev S G (.call j es) ρ = (evs S G es ρ).bind (G j) := by rw [ev]; rfl
theorem ev_blt {f : Bf} : ev S G (.blt f es) ρ = (evs S G es ρ).bind f.run := by rw [ev]; rfl
def m1K (f : En → Option D) (ρ : En) (g : D → D → Option D) : D → Option D
  | .str l => (f ρ).bind (g (.str l))
  | _ => none
theorem m1K_str {f : En → Option D} {g : D → D → Option D} {l : List Nat} : m1K f ρ g (.str l) = (f ρ).bind (g (.str l)) := (rfl)
theorem ev_m0 {f : M0} : ev S G (.m0 f a) ρ = (ev S G a ρ).bind f.run := by rw [ev]; rfl
theorem ev_rev : ev S G (.rev a) ρ = (ev S G a ρ).bind revD := by rw [ev]; rfl
theorem ev_m1 {f : M1} : ev S G (.m1 f a b) ρ = (ev S G a ρ).bind (m1K (ev S G b) ρ f.run) := by
  rw [ev]
  unfold meth1
  congr 1
theorem ev_isi {T : Ty} : ev S G (.isi T a) ρ = (ev S G a ρ).bind (isiD T.nm) := by rw [ev]; rfl
theorem ev_isi2 {T U : Ty} : ev S G (.isi2 T U a) ρ = (ev S G a ρ).bind (isi2D T.nm U.nm) := by rw [ev]; rfl
def compK (ρ : En) (t : Tg) (fc : En → Option Bool) (fe : En → Option D) (ds : List D) : Option D := if ds.length ≤ sizeLine then (compL ρ t fc fe ds).bind fun ys => some (.lst ys) else none
theorem ev_comp {elt : ME} {t : Tg} {it : MI} {d : MO} : ev S G (.comp elt t it d) ρ = (evI S G it ρ).bind (compK (wipeR ρ t.slots) t (evC S G d) (ev S G elt)) := by
  rw [ev]
  unfold fz gcomp
  cases evI S G it ρ with
  | none => rfl
  | some ds =>
    show Option.map _ (if _ then _ else _) = compK _ _ _ _ ds
    unfold compK
    split
    · cases compL (wipeR ρ t.slots) t (evC S G d) (ev S G elt) ds <;> rfl
    · rfl
theorem evC_none : evC S G .none ρ = some true := by rw [evC]; rfl
theorem evC_some : evC S G (.some a) ρ = (ev S G a ρ).bind truD := by rw [evC]; rfl
theorem evI_dat : evI S G (.dat a) ρ = (ev S G a ρ).bind itemsD := by rw [evI]; rfl
def rng1K : D → Option (List D)
  | .int j => if -(2 ^ 62) ≤ j ∧ j < 2 ^ 62 then some (rngD 0 j.toNat) else none
  | _ => none
def rng2K : D → D → Option (List D)
  | .int i, .int j => if -(2 ^ 62) ≤ i ∧ i < 2 ^ 62 ∧ -(2 ^ 62) ≤ j ∧ j < 2 ^ 62 then some (rngD i (j - i).toNat) else none
  | _, _ => none
theorem evI_rng1 : evI S G (.rng1 a) ρ = (ev S G a ρ).bind rng1K := by
  rw [evI]
  unfold grng1 gcons gnil
  cases ev S G a ρ with
  | none => rfl
  | some x => cases x <;> rfl
theorem evI_rng2 : evI S G (.rng2 a b) ρ = (ev S G a ρ).bind fun x => (ev S G b ρ).bind (rng2K x) := by
  rw [evI]
  unfold grng2 gcons gnil
  cases ev S G a ρ with
  | none => rfl
  | some x =>
    cases ev S G b ρ with
    | none => rfl
    | some y => cases x <;> cases y <;> rfl
theorem rng1K_of {j : Int} (h : -(2 ^ 62) ≤ j ∧ j < 2 ^ 62) : rng1K (.int j) = some (rngD 0 j.toNat) := if_pos h
theorem rng2K_of {i j : Int} (h : -(2 ^ 62) ≤ i ∧ i < 2 ^ 62 ∧ -(2 ^ 62) ≤ j ∧ j < 2 ^ 62) : rng2K (.int i) (.int j) = some (rngD i (j - i).toNat) := if_pos h
def zipK : D → D → Option (List D)
  | .tup xs, .tup ys => some (zipD xs ys)
  | .lst xs, .lst ys => some (zipD xs ys)
  | _, _ => none
theorem zipK_tup {xs ys : List D} : zipK (.tup xs) (.tup ys) = some (zipD xs ys) := (rfl)
theorem zipK_lst {xs ys : List D} : zipK (.lst xs) (.lst ys) = some (zipD xs ys) := (rfl)
theorem evI_zip : evI S G (.zip a b) ρ = (ev S G a ρ).bind fun x => (ev S G b ρ).bind (zipK x) := by
  rw [evI]
  unfold gzip gcons gnil
  cases ev S G a ρ with
  | none => rfl
  | some x =>
    cases ev S G b ρ with
    | none => rfl
    | some y => cases x <;> cases y <;> rfl
def enLK : D → Option (List D)
  | .lst xs => some (enumD xs)
  | .tup xs => some (enumD xs)
  | _ => none
theorem enLK_lst {xs : List D} : enLK (.lst xs) = some (enumD xs) := (rfl)
theorem enLK_tup {xs : List D} : enLK (.tup xs) = some (enumD xs) := (rfl)
theorem evI_enumL : evI S G (.enumL a) ρ = (ev S G a ρ).bind enLK := by
  rw [evI]
  unfold genumA gcons gnil
  cases ev S G a ρ with
  | none => rfl
  | some x => cases x <;> rfl
theorem ev_bor {is : List Nat} : ev S G (.bor is a) ρ = (ev S G a (brw is ρ)).bind scal := by rw [ev]; rfl
def itK (s : Option Sl) (d : D) : Option D := match s with
  | some (.l xs) => (match d with
    | .int j => atI xs j
    | _ => none)
  | _ => none
theorem itK_int {xs : List D} {j : Int} : itK (some (.l xs)) (.int j) = atI xs j := (rfl)
theorem ev_itm {i : Nat} : ev S G (.itm i a) ρ = (ev S G a ρ).bind (itK ρ[i]?) := by
  rw [ev]
  unfold gitm itK
  congr 1

/-! statements -/
def seqK (gs : En → Option Res) : Res → Option Res
  | .nx ρ => gs ρ
  | .rt d => some (.rt d)
theorem seqK_nx {gs : En → Option Res} : seqK gs (.nx ρ) = gs ρ := (rfl)
theorem seqK_rt {gs : En → Option Res} {d : D} : seqK gs (.rt d) = some (.rt d) := (rfl)
theorem exs_nil : exs S G .nil ρ = some (.nx ρ) := by rw [exs]; rfl
theorem exs_cons {s : MS} {r : MSs} : exs S G (.cons s r) ρ = (ex S G s ρ).bind (seqK (exs S G r)) := by
  rw [exs]
  unfold gseq
  congr 1
theorem exs_frz {i : Nat} {r : MSs} : exs S G (.frz i r) ρ = (gfrz i ρ).bind (exs S G r) := by rw [exs]
theorem ex_ret : ex S G (.ret a) ρ = (ev S G a ρ).bind fun x => some (.rt x) := by
  rw [ex]
  unfold gret
  cases ev S G a ρ <;> rfl
theorem ex_try {b : MSs} : ex S G (.try_ b) ρ = exs S G b ρ := by rw [ex]
theorem ex_nvr : ex S G .nvr ρ = none := by rw [ex]
theorem ex_retN : ex S G .retN ρ = some (.rt .non) := by rw [ex]; rfl
theorem ex_ite {sa sb : MSs} : ex S G (.ite c sa sb) ρ = (ev S G c ρ).bind fun x => (truD x).bind (ifE (exs S G sa) (exs S G sb) ρ) := by
  rw [ex]
  unfold gitS ft
  cases ev S G c ρ with
  | none => rfl
  | some x =>
    show (truD x).bind _ = (truD x).bind _
    congr 1
    funext t
    cases t <;> rfl
def asgK (t : Tg) (ρ : En) (d : D) : Option Res := (asg t d ρ).bind fun ρ' => some (.nx ρ')
theorem asgK_nm {i : Nat} {d : D} : asgK (.nm i) ρ d = some (.nx (ρ.set i (.d d))) := by unfold asgK; rw [asg]; rfl
theorem asgK_tp {ts : Tgs} {xs : List D} : asgK (.tp ts) ρ (.tup xs) = (asgs ts xs ρ).bind fun ρ' => some (.nx ρ') := by unfold asgK; rw [asg]; rfl
theorem asg_nm {i : Nat} {d : D} : asg (.nm i) d ρ = some (ρ.set i (.d d)) := by rw [asg]
theorem asg_tp {ts : Tgs} {xs : List D} : asg (.tp ts) (.tup xs) ρ = asgs ts xs ρ := by rw [asg]; rfl
theorem asgs_nil : asgs .nil [] ρ = some ρ := by rw [asgs]
theorem asgs_cons {t : Tg} {ts : Tgs} {x : D} {xs : List D} : asgs (.cons t ts) (x :: xs) ρ = (asg t x ρ).bind (asgs ts xs) := by rw [asgs]
theorem ex_asg {t : Tg} : ex S G (.asg t a) ρ = (ev S G a ρ).bind (asgK t ρ) := by
  rw [ex]
  unfold gasg asgK
  congr 1
  funext d
  cases asg t d ρ <;> rfl
theorem set_0 {s x : Sl} {r : En} : (s :: r).set 0 x = x :: r := (rfl)
theorem set_s {n : Nat} {s x : Sl} {r : En} : (s :: r).set (n + 1) x = s :: r.set n x := (rfl)
theorem get_0 {s : Sl} {r : En} : (s :: r)[0]? = some s := (rfl)
theorem get_s {n : Nat} {s : Sl} {r : En} : (s :: r)[n + 1]? = r[n]? := (rfl)
def setLK (i : Nat) (ρ : En) (xs : List D) : Option Res := some (.nx (ρ.set i (.l xs)))
theorem ex_setL {i : Nat} : ex S G (.setL i es) ρ = (evs S G es ρ).bind fun xs => (small xs).bind (setLK i ρ) := by
  rw [ex]
  unfold gsetL glst
  cases evs S G es ρ with
  | none => rfl
  | some xs =>
    show Option.map _ (small xs) = (small xs).bind _
    cases small xs <;> rfl
theorem setLK_eq {i : Nat} {xs : List D} : setLK i ρ xs = some (.nx (ρ.set i (.l xs))) := (rfl)
theorem small_of {xs : List D} (h : xs.length ≤ 16777216) : small xs = some xs := if_pos h
theorem ex_setK {i : Nat} : ex S G (.setK i a b) ρ = (ev S G a ρ).bind fun x => (ev S G b ρ).bind fun y => (catL x y).bind (setLK i ρ) := by
  rw [ex]
  unfold gsetL gcat
  cases ev S G a ρ with
  | none => rfl
  | some x =>
    show Option.map _ ((ev S G b ρ).bind _) = (ev S G b ρ).bind _
    cases ev S G b ρ with
    | none => rfl
    | some y =>
      show Option.map _ (catL x y) = (catL x y).bind _
      cases catL x y <;> rfl
theorem ex_setC {i : Nat} {elt : ME} {t : Tg} {it : MI} {d : MO} : ex S G (.setC i elt t it d) ρ = (ev S G (.comp elt t it d) ρ).bind (asgK (.nm i) ρ) := by
  rw [ex, ev]
  unfold gsetC fz
  cases gcomp t.slots (evI S G it) t (evC S G d) (ev S G elt) ρ with
  | none => rfl
  | some xs =>
    show some _ = asgK (.nm i) ρ _
    rw [asgK_nm]
theorem ex_par {i j : Nat} : ex S G (.par i j a b) ρ = (ev S G a ρ).bind fun x => (ev S G b ρ).bind fun y => some (.nx ((ρ.set i (.d x)).set j (.d y))) := by
  rw [ex]
  unfold gpar gcons gnil
  cases ev S G a ρ with
  | none => rfl
  | some x => cases ev S G b ρ <;> rfl
def forK (t : Tg) (gb : En → Option Res) (ρ : En) (ds : List D) : Option Res := forL t gb ds ρ
theorem ex_for {t : Tg} {it : MI} {body : MSs} : ex S G (.for_ t it body) ρ = (evI S G it ρ).bind (forK t (exs S G body) ρ) := by rw [ex]; rfl
theorem forK_nil {t : Tg} {gb : En → Option Res} : forK t gb ρ [] = some (.nx ρ) := (rfl)
theorem forK_cons {t : Tg} {gb : En → Option Res} {d : D} {ds : List D} : forK t gb ρ (d :: ds) = (asg t d ρ).bind fun ρ1 => (gb ρ1).bind (seqK fun ρ2 => forK t gb ρ2 ds) := by
  show forL t gb (d :: ds) ρ = _
  unfold forL
  congr 1
theorem forK_step {t : Tg} {gb : En → Option Res} {d : D} {ds : List D} {ρ1 ρ2 : En} (h1 : asg t d ρ = some ρ1) (h2 : gb ρ1 = some (.nx ρ2)) : forK t gb ρ (d :: ds) = forK t gb ρ2 ds := by
  rw [forK_cons, h1, obs, h2, obs, seqK_nx]
theorem forK_out {t : Tg} {gb : En → Option Res} {d x : D} {ds : List D} {ρ1 : En} (h1 : asg t d ρ = some ρ1) (h2 : gb ρ1 = some (.rt x)) : forK t gb ρ (d :: ds) = some (.rt x) := by
  rw [forK_cons, h1, obs, h2, obs, seqK_rt]
def appK (i : Nat) (ρ : En) (s : Option Sl) (d : D) : Option Res := match s with
  | some (.l xs) => if xs.length < sizeLine then some (.nx (ρ.set i (.l (xs ++ [d])))) else none
  | _ => none
theorem appK_of {i : Nat} {xs : List D} {d : D} (h : xs.length < 16777216) : appK i ρ (some (.l xs)) d = some (.nx (ρ.set i (.l (xs ++ [d])))) := if_pos h
theorem ex_app {i : Nat} : ex S G (.app i a) ρ = (ev S G a ρ).bind (appK i ρ ρ[i]?) := by
  rw [ex]
  unfold gapp
  cases h : ρ[i]? with
  | none => cases ev S G a ρ <;> rfl
  | some s =>
    cases s with
    | no => cases ev S G a ρ <;> rfl
    | d _ => cases ev S G a ρ <;> rfl
    | l xs => rfl
    | m _ => cases ev S G a ρ <;> rfl
    | f _ => cases ev S G a ρ <;> rfl
    | t _ _ _ => cases ev S G a ρ <;> rfl
    | ow _ => cases ev S G a ρ <;> rfl
def extK (i : Nat) (ρ : En) (s : Option Sl) (d : D) : Option Res := match s, d with
  | some (.l xs), .lst ds => if xs.length + ds.length ≤ sizeLine then some (.nx (ρ.set i (.l (xs ++ ds)))) else none
  | _, _ => none
theorem extK_of {i : Nat} {xs ds : List D} (h : xs.length + ds.length ≤ 16777216) : extK i ρ (some (.l xs)) (.lst ds) = some (.nx (ρ.set i (.l (xs ++ ds)))) := if_pos h
theorem ex_extC {i : Nat} {elt : ME} {t : Tg} {it : MI} {d : MO} : ex S G (.extC i elt t it d) ρ = (ev S G (.comp elt t it d) ρ).bind (extK i ρ ρ[i]?) := by
  rw [ex, ev]
  unfold gext fz
  cases h : ρ[i]? with
  | none => cases gcomp t.slots (evI S G it) t (evC S G d) (ev S G elt) ρ <;> rfl
  | some s =>
    cases s with
    | no => cases gcomp t.slots (evI S G it) t (evC S G d) (ev S G elt) ρ <;> rfl
    | d _ => cases gcomp t.slots (evI S G it) t (evC S G d) (ev S G elt) ρ <;> rfl
    | l xs => cases gcomp t.slots (evI S G it) t (evC S G d) (ev S G elt) ρ <;> rfl
    | m xs => cases gcomp t.slots (evI S G it) t (evC S G d) (ev S G elt) ρ <;> rfl
    | f xs => cases gcomp t.slots (evI S G it) t (evC S G d) (ev S G elt) ρ <;> rfl
    | ow xs => cases gcomp t.slots (evI S G it) t (evC S G d) (ev S G elt) ρ <;> rfl
    | t _ _ _ => cases gcomp t.slots (evI S G it) t (evC S G d) (ev S G elt) ρ <;> rfl
theorem gfrz_of {i : Nat} {xs : List D} (h : ρ[i]? = some (.l xs)) : gfrz i ρ = some (ρ.set i (.d (.lst xs))) := by
  unfold gfrz
  rw [h]
end

/-! operations on known data -/
section
variable {i j : Int} {l m : List Nat} {xs ys : List D} {x y : D} {t u : Bool}
theorem run_add : B2.run .add = addD := (rfl)
theorem run_sub : B2.run .sub = subD := (rfl)
theorem run_mul : B2.run .mul = mulD := (rfl)
theorem run_mod : B2.run .mod = modD := (rfl)
theorem run_fdiv : B2.run .fdiv = fdivD := (rfl)
theorem run_eq : C2.run .eq = eqD := (rfl)
theorem run_ne : C2.run .ne = neD := (rfl)
theorem run_lt : C2.run .lt = ltY := (rfl)
theorem run_le : C2.run .le = leY := (rfl)
theorem run_gt : C2.run .gt = gtY := (rfl)
theorem run_ge : C2.run .ge = geY := (rfl)
theorem run_is : C2.run .is = isD := (rfl)
theorem run_isn : C2.run .isn = isnD := (rfl)
theorem run_in : C2.run .in_ = inD := (rfl)
theorem run_nin : C2.run .nin = ninD := (rfl)
theorem run_len : Bf.run .len = lenD := (rfl)
theorem run_tuple : Bf.run .tuple = tupD := (rfl)
theorem run_list : Bf.run .list = listD := (rfl)
theorem run_all : Bf.run .all = allD := (rfl)
theorem run_any : Bf.run .any = anyD := (rfl)
theorem run_sum : Bf.run .sum = sumD := (rfl)
theorem run_abs : Bf.run .abs = absD := (rfl)
theorem run_min : Bf.run .min = minY := (rfl)
theorem run_max : Bf.run .max = maxY := (rfl)
theorem run_sorted : Bf.run .sorted = sortY := (rfl)
theorem run_starts : M1.run .starts = startsD := (rfl)
theorem run_ends : M1.run .ends = endsD := (rfl)
theorem run_count : M1.run .count = countD := (rfl)
theorem run_join : M1.run .join = joinD := (rfl)
theorem run_split : M1.run .split = splitD := (rfl)
theorem run_upper : M0.run .upper = upperD := (rfl)
theorem rev_tup {xs : List D} : revD (.tup xs) = some (.tup xs.reverse) := (rfl)
theorem rev_lst {xs : List D} : revD (.lst xs) = some (.lst xs.reverse) := (rfl)
theorem add_int : addD (.int i) (.int j) = some (.int (i + j)) := (rfl)
theorem add_str (h : l.length + m.length ≤ 16777216) : addD (.str l) (.str m) = some (.str (l ++ m)) := if_pos h
theorem add_tup (h : xs.length + ys.length ≤ 16777216) : addD (.tup xs) (.tup ys) = some (.tup (xs ++ ys)) := if_pos h
theorem add_lst (h : xs.length + ys.length ≤ 16777216) : addD (.lst xs) (.lst ys) = some (.lst (xs ++ ys)) := if_pos h
theorem catL_of (h : xs.length + ys.length ≤ 16777216) : catL (.lst xs) (.lst ys) = some (xs ++ ys) := if_pos h
theorem sub_int : subD (.int i) (.int j) = some (.int (i - j)) := (rfl)
theorem mul_l (h : -(2 ^ 64) < i ∧ i < 2 ^ 64) : mulD (.int i) (.int j) = some (.int (i * j)) := if_pos (.inl h)
theorem mul_r (h : -(2 ^ 64) < j ∧ j < 2 ^ 64) : mulD (.int i) (.int j) = some (.int (i * j)) := if_pos (.inr h)
theorem mod_int (h : 0 < j) : modD (.int i) (.int j) = some (.int (i % j)) := if_pos h
theorem fdiv_int (h : 0 < j ∧ j < 1073741824) : fdivD (.int i) (.int j) = some (.int (i / j)) := if_pos h
theorem lt_int : ltY (.int i) (.int j) = some (.bl (decide (i < j))) := (rfl)
theorem le_int : leY (.int i) (.int j) = some (.bl (decide (i ≤ j))) := (rfl)
theorem gt_int : gtY (.int i) (.int j) = some (.bl (decide (j < i))) := (rfl)
theorem ge_int : geY (.int i) (.int j) = some (.bl (decide (j ≤ i))) := (rfl)
theorem is_non : isD x .non = some (.bl (isNon x)) := (rfl)
theorem isn_non : isnD x .non = some (.bl (!isNon x)) := (rfl)
theorem is_bl : isD (.bl t) (.bl u) = some (.bl (decide (t = u))) := (rfl)
theorem isn_bl : isnD (.bl t) (.bl u) = some (.bl (!decide (t = u))) := (rfl)
theorem isNon_non : isNon .non = true := (rfl)
theorem isNon_tup : isNon (.tup xs) = false := (rfl)
theorem isNon_int : isNon (.int i) = false := (rfl)
theorem isNon_str : isNon (.str l) = false := (rfl)
theorem isNon_bl : isNon (.bl t) = false := (rfl)
theorem isNon_lst : isNon (.lst xs) = false := (rfl)
theorem len_str (h : l.length ≤ 16777216) : lenD [.str l] = some (.int l.length) := if_pos h
theorem len_tup : lenD [.tup xs] = some (.int xs.length) := (rfl)
theorem len_lst : lenD [.lst xs] = some (.int xs.length) := (rfl)
theorem len_scr {ns : List Int} : lenD [.scr ns] = some (.int ns.length) := (rfl)
theorem tup_lst : tupD [.lst xs] = some (.tup xs) := (rfl)
theorem tup_tup : tupD [.tup xs] = some (.tup xs) := (rfl)
theorem list_lst : listD [.lst xs] = some (.lst xs) := (rfl)
theorem list_tup : listD [.tup xs] = some (.lst xs) := (rfl)
theorem min_int : minY [.int i, .int j] = some (.int (if j < i then j else i)) := (rfl)
theorem max_int : maxY [.int i, .int j] = some (.int (if j > i then j else i)) := (rfl)
theorem abs_int : absD [.int i] = some (.int (if i < 0 then -i else i)) := (rfl)
theorem all_bls {bs : List Bool} : allD [.lst (bs.map D.bl)] = some (.bl (bs.all id)) := by show (asBls _).map _ = _; rw [asBls_map]; rfl
theorem any_bls {bs : List Bool} : anyD [.lst (bs.map D.bl)] = some (.bl (bs.any id)) := by show (asBls _).map _ = _; rw [asBls_map]; rfl
theorem sum_ints {ns : List Int} : sumD [.lst (ns.map D.int)] = some (.int ns.sum) := by show (asInts _).map _ = _; rw [asInts_map]; rfl
theorem sum_tupI {ns : List Int} : sumD [.tup (ns.map D.int)] = some (.int ns.sum) := by show (asInts _).map _ = _; rw [asInts_map]; rfl
theorem idx_tup : idxD (.tup xs) (.int i) = atI xs i := (rfl)
theorem idx_lst : idxD (.lst xs) (.int i) = atI xs i := (rfl)
theorem idx_scr {ns : List Int} : idxD (.scr ns) (.int i) = (atI ns i).map .int := (rfl)
theorem idx_str (h : l.length ≤ 16777216) : idxD (.str l) (.int i) = (atI l i).map fun c => .str [c] := if_pos h
theorem slc_tup {lo hi : Option Int} : slcD lo hi (.tup xs) = some (.tup (cut xs lo hi)) := (rfl)
theorem slc_lst {lo hi : Option Int} : slcD lo hi (.lst xs) = some (.lst (cut xs lo hi)) := (rfl)
theorem slc_str {lo hi : Option Int} (h : l.length ≤ 16777216) : slcD lo hi (.str l) = some (.str (cut l lo hi)) := if_pos h
theorem tru_non : truD .non = some false := (rfl)
theorem tru_bl : truD (.bl t) = some t := (rfl)
theorem tru_int : truD (.int i) = some (i != 0) := (rfl)
theorem tru_lst : truD (.lst xs) = some (!xs.isEmpty) := (rfl)
theorem tru_tup : truD (.tup xs) = some (!xs.isEmpty) := (rfl)
theorem tru_str (h : l.length ≤ 16777216) : truD (.str l) = some ((l.length : Int) != 0) := if_pos h
theorem its_lst : itemsD (.lst xs) = some xs := (rfl)
theorem its_tup : itemsD (.tup xs) = some xs := (rfl)
theorem its_str : itemsD (.str l) = some (l.map fun c => .str [c]) := (rfl)
theorem starts_str : startsD (.str l) (.str m) = some (.bl (Txt.startswith (mkS l) (mkS m))) := (rfl)
theorem ends_str : endsD (.str l) (.str m) = some (.bl (Txt.endswith (mkS l) (mkS m))) := (rfl)
theorem count_str : countD (.str l) (.str m) = some (.int (Txt.count (mkS l) (mkS m))) := (rfl)
theorem join_strs {ls : List (List Nat)} (h : (ls.map List.length).sum + ls.length * l.length ≤ 16777216) : joinD (.str l) (.lst (ls.map D.str)) = some (.str (TL.joinL l ls)) := by
  show (asStrs _).bind _ = _
  rw [asStrs_map]
  exact if_pos h
theorem scal_bl : scal (.bl t) = some (.bl t) := (rfl)
theorem scal_int : scal (.int i) = some (.int i) := (rfl)
theorem slots_nm {k : Nat} : Tg.slots (.nm k) = [k] := by rw [Tg.slots]
theorem slots_tp {ts : Tgs} : Tg.slots (.tp ts) = ts.slots := by rw [Tg.slots]
theorem slots_nil : Tgs.slots .nil = [] := by rw [Tgs.slots]
theorem slots_cons {t : Tg} {ts : Tgs} : Tgs.slots (.cons t ts) = t.slots ++ ts.slots := by rw [Tgs.slots]
theorem wipeR_nil {ρ : En} : wipeR ρ [] = ρ := (rfl)
theorem wipeR_cons {ρ : En} {v : Nat} {vs : List Nat} : wipeR ρ (v :: vs) = (wipeR ρ vs).set v .no := (rfl)
theorem brw_nil {ρ : En} : brw [] ρ = ρ := (rfl)
theorem brw_l {ρ : En} {k : Nat} {is : List Nat} (h : ρ[k]? = some (.l xs)) : brw (k :: is) ρ = brw is (ρ.set k (.d (.lst xs))) := by
  show (match ρ[k]? with | some (.l xs) => brw is (ρ.set k (.d (.lst xs))) | _ => brw is ρ) = _
  rw [h]
def brwK (k : Nat) (is : List Nat) (ρ : En) : Option Sl → En
  | some (.l xs) => brw is (ρ.set k (.d (.lst xs)))
  | _ => brw is ρ
theorem brw_cons {ρ : En} {k : Nat} {is : List Nat} : brw (k :: is) ρ = brwK k is ρ ρ[k]? := (rfl)
theorem brwK_l {ρ : En} {k : Nat} {is : List Nat} : brwK k is ρ (some (.l xs)) = brw is (ρ.set k (.d (.lst xs))) := (rfl)
theorem brwK_d {ρ : En} {k : Nat} {is : List Nat} {x : D} : brwK k is ρ (some (.d x)) = brw is ρ := (rfl)
def frzK (i : Nat) (ρ : En) : Option Sl → Option En
  | some (.l xs) => some (ρ.set i (.d (.lst xs)))
  | _ => none
theorem gfrz_eq {ρ : En} {i : Nat} : gfrz i ρ = frzK i ρ ρ[i]? := (rfl)
theorem frzK_l {ρ : En} {i : Nat} : frzK i ρ (some (.l xs)) = some (ρ.set i (.d (.lst xs))) := (rfl)
theorem isi_t {T : String} {b : Bool} (hs : isScr x = false) (h : kitB (tyN x) T = some b) : isiD T x = some (.bl b) := by
  unfold isiD
  rw [hs, h]
  rfl
end

/-! comprehensions and loops as maps -/
/-- a comprehension whose test and element are known -/
theorem compL_map {α : Type} {ρ : En} {t : Tg} {fc : En → Option Bool} {fe : En → Option D} (e : α → D) (p : α → Bool) (g : α → D) : ∀ (xs : List α), (∀ x ∈ xs, ∃ ρ', asg t (e x) ρ = some ρ' ∧ fc ρ' = some (p x) ∧ (p x = true → fe ρ' = some (g x))) →
    compL ρ t fc fe (xs.map e) = some ((xs.filter p).map g)
  | [], _ => rfl
  | x :: xs, h => by
    obtain ⟨ρ', h1, h2, h3⟩ := h x List.mem_cons_self
    have ih := compL_map (ρ := ρ) (t := t) (fc := fc) (fe := fe) e p g xs fun y hy => h y (List.mem_cons_of_mem _ hy)
    rw [List.map_cons, compL, h1]
    show (fc ρ').bind _ = _
    rw [h2]
    cases hp : p x with
    | true =>
      show (fe ρ').bind _ = _
      rw [h3 hp, ih, List.filter_cons_of_pos hp]
      rfl
    | false =>
      show compL ρ t fc fe (xs.map e) = _
      rw [ih, List.filter_cons_of_neg (by rw [hp]; exact Bool.false_ne_true)]
theorem compK_map {α : Type} {ρ : En} {t : Tg} {fc : En → Option Bool} {fe : En → Option D} (e : α → D) (p : α → Bool) (g : α → D) {xs : List α} (hl : xs.length ≤ 16777216) (h : ∀ x ∈ xs, ∃ ρ', asg t (e x) ρ = some ρ' ∧ fc ρ' = some (p x) ∧ (p x = true → fe ρ' = some (g x))) :
    compK ρ t fc fe (xs.map e) = some (.lst ((xs.filter p).map g)) := by
  unfold compK
  rw [if_pos (by rw [List.length_map]; exact hl), compL_map e p g xs h]
  rfl
theorem compK_all {α : Type} {ρ : En} {t : Tg} {fc : En → Option Bool} {fe : En → Option D} (e : α → D) (g : α → D) {xs : List α} (hl : xs.length ≤ 16777216) (h : ∀ x ∈ xs, ∃ ρ', asg t (e x) ρ = some ρ' ∧ fc ρ' = some true ∧ fe ρ' = some (g x)) :
    compK ρ t fc fe (xs.map e) = some (.lst (xs.map g)) := by
  rw [compK_map e (fun _ => true) g hl fun x hx => by
    obtain ⟨ρ', h1, h2, h3⟩ := h x hx
    exact ⟨ρ', h1, h2, fun _ => h3⟩]
  rw [List.filter_eq_self.mpr fun _ _ => rfl]
/-- a loop by an invariant, no turn leaving -/
theorem forK_inv0 {α : Type} {t : Tg} {gb : En → Option Res} (e : α → D) (I : List α → En → Prop) (all : List α) (turn : ∀ pre x post ρ, all = pre ++ x :: post → I pre ρ → ∃ ρ1 ρ2, asg t (e x) ρ = some ρ1 ∧ gb ρ1 = some (.nx ρ2) ∧ I (pre ++ [x]) ρ2) :
    ∀ (xs pre : List α) (ρ : En), all = pre ++ xs → I pre ρ → ∃ ρ', forK t gb ρ (xs.map e) = some (.nx ρ') ∧ I all ρ'
  | [], pre, ρ, ha, h => ⟨ρ, rfl, by rw [ha, List.append_nil]; exact h⟩
  | x :: xs, pre, ρ, ha, h => by
    obtain ⟨ρ1, ρ2, h1, h2, h3⟩ := turn pre x xs ρ ha h
    obtain ⟨ρ', h4, h5⟩ := forK_inv0 e I all turn xs (pre ++ [x]) ρ2 (by rw [ha, List.append_assoc]; rfl) h3
    refine ⟨ρ', ?_, h5⟩
    rw [List.map_cons, forK_cons, h1]
    show (gb ρ1).bind _ = _
    rw [h2]
    exact h4
theorem forK_inv {α : Type} {t : Tg} {gb : En → Option Res} (e : α → D) (I : List α → En → Prop) (all : List α) (ρ : En) (h0 : I [] ρ) (turn : ∀ pre x post ρ, all = pre ++ x :: post → I pre ρ → ∃ ρ1 ρ2, asg t (e x) ρ = some ρ1 ∧ gb ρ1 = some (.nx ρ2) ∧ I (pre ++ [x]) ρ2) :
    ∃ ρ', forK t gb ρ (all.map e) = some (.nx ρ') ∧ I all ρ' := forK_inv0 e I all turn all [] ρ rfl h0
/-- a loop that may be left: an invariant, or an answer -/
theorem forK_or0 {α : Type} {t : Tg} {gb : En → Option Res} (e : α → D) (I : List α → En → Prop) (R : D → Prop) (all : List α) (turn : ∀ pre x post ρ, all = pre ++ x :: post → I pre ρ → ∃ ρ1 r, asg t (e x) ρ = some ρ1 ∧ gb ρ1 = some r ∧ ((∃ ρ2, r = .nx ρ2 ∧ I (pre ++ [x]) ρ2) ∨ ∃ d, r = .rt d ∧ R d)) :
    ∀ (xs pre : List α) (ρ : En), all = pre ++ xs → I pre ρ → (∃ ρ', forK t gb ρ (xs.map e) = some (.nx ρ') ∧ I all ρ') ∨ ∃ d, forK t gb ρ (xs.map e) = some (.rt d) ∧ R d
  | [], pre, ρ, ha, h => .inl ⟨ρ, rfl, by rw [ha, List.append_nil]; exact h⟩
  | x :: xs, pre, ρ, ha, h => by
    obtain ⟨ρ1, r, h1, h2, h3⟩ := turn pre x xs ρ ha h
    rw [List.map_cons, forK_cons, h1]
    show (∃ ρ', (gb ρ1).bind _ = _ ∧ _) ∨ ∃ d, (gb ρ1).bind _ = _ ∧ _
    rw [h2]
    rcases h3 with ⟨ρ2, rfl, h3⟩ | ⟨d, rfl, h3⟩
    · exact forK_or0 e I R all turn xs (pre ++ [x]) ρ2 (by rw [ha, List.append_assoc]; rfl) h3
    · exact .inr ⟨d, rfl, h3⟩
theorem forK_or {α : Type} {t : Tg} {gb : En → Option Res} (e : α → D) (I : List α → En → Prop) (R : D → Prop) (all : List α) (ρ : En) (h0 : I [] ρ) (turn : ∀ pre x post ρ, all = pre ++ x :: post → I pre ρ → ∃ ρ1 r, asg t (e x) ρ = some ρ1 ∧ gb ρ1 = some r ∧ ((∃ ρ2, r = .nx ρ2 ∧ I (pre ++ [x]) ρ2) ∨ ∃ d, r = .rt d ∧ R d)) :
    (∃ ρ', forK t gb ρ (all.map e) = some (.nx ρ') ∧ I all ρ') ∨ ∃ d, forK t gb ρ (all.map e) = some (.rt d) ∧ R d := forK_or0 e I R all turn all [] ρ rfl h0
theorem rngD_map (lo : Int) (n : Nat) : rngD lo n = (List.range n).map fun i => D.int (lo + (i : Nat)) := (rfl)
/-! ### dicts, while, pops -/
section
variable {S : PIn} {G : Nat → List D → Option D} {ρ : En} {a b c : ME}
def gdK : Option Sl → Option (List (D × D))
  | some (.m k) => some k
  | some (.f k) => some k
  | _ => none
theorem gdK_m {k : List (D × D)} : gdK (some (.m k)) = some k := (rfl)
theorem gdK_f {k : List (D × D)} : gdK (some (.f k)) = some k := (rfl)
def mninK (kvs : List (D × D)) (x : D) : Option D := if (keyD x).isSome then some (.bl (!(dget kvs x).isSome)) else none
def mgetK (kvs : List (D × D)) (x z : D) : Option D := if (keyD x).isSome then some ((dget kvs x).getD z) else none
def matK (kvs : List (D × D)) (x : D) : Option D := if (keyD x).isSome then dget kvs x else none
theorem mninK_of {kvs : List (D × D)} {x : D} (h : (keyD x).isSome = true) : mninK kvs x = some (.bl (!(dget kvs x).isSome)) := if_pos h
theorem mgetK_of {kvs : List (D × D)} {x z : D} (h : (keyD x).isSome = true) : mgetK kvs x z = some ((dget kvs x).getD z) := if_pos h
theorem matK_of {kvs : List (D × D)} {x : D} (h : (keyD x).isSome = true) : matK kvs x = dget kvs x := if_pos h
theorem gdi_eq {i : Nat} : gdi i ρ = gdK ρ[i]? := by
  unfold gdi gdK
  rfl
theorem ev_mnin {i : Nat} : ev S G (.mnin i a) ρ = (gdK ρ[i]?).bind fun kvs => (ev S G a ρ).bind (mninK kvs) := by
  rw [ev, ← gdi_eq]
  rfl
theorem ev_mget {i : Nat} : ev S G (.mget i a b) ρ = (gdK ρ[i]?).bind fun kvs => (ev S G a ρ).bind fun x => (ev S G b ρ).bind (mgetK kvs x) := by
  rw [ev, ← gdi_eq]
  rfl
theorem ev_mat {i : Nat} : ev S G (.mat i a) ρ = (gdK ρ[i]?).bind fun kvs => (ev S G a ρ).bind (matK kvs) := by
  rw [ev, ← gdi_eq]
  rfl
theorem ex_setM {i : Nat} : ex S G (.setM i) ρ = some (.nx (ρ.set i (.m []))) := by rw [ex]; rfl
def gmK : Option Sl → Option (List (D × D))
  | some (.m k) => some k
  | _ => none
theorem gmK_m {k : List (D × D)} : gmK (some (.m k)) = some k := (rfl)
def putK (i : Nat) (ρ : En) (kvs : List (D × D)) (v x : D) : Option Res := if (keyD x).isSome && decide (kvs.length < sizeLine) then some (.nx (ρ.set i (.m (dput kvs x v)))) else none
theorem putK_of {i : Nat} {kvs : List (D × D)} {v x : D} (h : (keyD x).isSome = true) (hl : kvs.length < 16777216) : putK i ρ kvs v x = some (.nx (ρ.set i (.m (dput kvs x v)))) := if_pos (by rw [h, Bool.true_and]; exact decide_eq_true hl)
theorem ex_put {i : Nat} : ex S G (.put i a b) ρ = (gmK ρ[i]?).bind fun kvs => (ev S G b ρ).bind fun v => (ev S G a ρ).bind (putK i ρ kvs v) := by
  rw [ex]
  unfold gput gmK
  cases ρ[i]? with
  | none => rfl
  | some s => cases s <;> rfl
theorem ex_whl {n i : Nat} {sb : MSs} : ex S G (.whl n i sb) ρ = gwhl i (exs S G sb) n ρ := by rw [ex]
def pop0K (t : Tg) (i : Nat) (ρ : En) : Option Sl → Option Res
  | some (.l (d :: ds)) => (asg t d (ρ.set i (.l ds))).map .nx
  | _ => none
theorem pop0K_cons {t : Tg} {i : Nat} {d : D} {ds : List D} : pop0K t i ρ (some (.l (d :: ds))) = (asg t d (ρ.set i (.l ds))).map .nx := (rfl)
theorem ex_pop0 {t : Tg} {i : Nat} : ex S G (.pop0 t i) ρ = pop0K t i ρ ρ[i]? := by
  rw [ex]
  unfold gpop0 pop0K
  rfl
def forPK (t : Tg) (g : List D → Option D) (i : Nat) (gb : En → Option Res) (ρ : En) (da : D) : Option Sl → Option Res
  | some (.l ds) => (ds[ds.length - 1]?).bind fun y => (g [da, y]).bind fun z => (itemsD z).bind (forK t gb (ρ.set i (.l ds.dropLast)))
  | _ => none
theorem forPK_of {t : Tg} {g : List D → Option D} {i : Nat} {gb : En → Option Res} {da y : D} {ds : List D} : forPK t g i gb ρ da (some (.l (ds ++ [y]))) = (g [da, y]).bind fun z => (itemsD z).bind (forK t gb (ρ.set i (.l ds))) := by
  show ((ds ++ [y])[(ds ++ [y]).length - 1]?).bind _ = _
  rw [List.length_append, List.length_singleton, Nat.add_sub_cancel, List.getElem?_append_right (Nat.le_refl _), Nat.sub_self, List.dropLast_concat]
  rfl
theorem ex_forP {t : Tg} {j i : Nat} {sb : MSs} : ex S G (.forP t j a i sb) ρ = (ev S G a ρ).bind fun da => forPK t (G j) i (exs S G sb) ρ da ρ[i]? := by
  rw [ex]
  unfold gforS gitS2 gcpop forPK
  cases ev S G a ρ with
  | none => rfl
  | some da =>
    show Option.bind (Option.bind (match ρ[i]? with | some (.l ds) => _ | _ => none) _) _ = _
    cases ρ[i]? with
    | none => rfl
    | some s =>
      cases s with
      | l ds =>
        show Option.bind (Option.bind (Option.bind ds[ds.length - 1]? _) _) _ = Option.bind ds[ds.length - 1]? _
        cases ds[ds.length - 1]? with
        | none => rfl
        | some y =>
          show Option.bind (Option.bind (Option.map _ (G j [da, y])) _) _ = Option.bind (G j [da, y]) _
          cases G j [da, y] with
          | none => rfl
          | some z =>
            show Option.bind (Option.map _ (itemsD z)) _ = Option.bind (itemsD z) _
            cases itemsD z <;> rfl
      | _ => rfl
def movK (i : Nat) (ρ : En) : Option Sl → Option Res
  | some (.f k) => some (.nx (ρ.set i (.f k)))
  | _ => none
theorem movK_f {i : Nat} {k : List (D × D)} : movK i ρ (some (.f k)) = some (.nx (ρ.set i (.f k))) := (rfl)
theorem ex_mov {i j : Nat} : ex S G (.mov i j) ρ = movK i ρ ρ[j]? := by
  rw [ex]
  unfold gmov movK
  rfl
def frzMK (i : Nat) (ρ : En) : Option Sl → Option En
  | some (.m k) => some (ρ.set i (.f k))
  | _ => none
theorem frzMK_m {i : Nat} {k : List (D × D)} : frzMK i ρ (some (.m k)) = some (ρ.set i (.f k)) := (rfl)
theorem exs_frzM {i : Nat} {r : MSs} : exs S G (.frzM i r) ρ = (frzMK i ρ ρ[i]?).bind (exs S G r) := by
  rw [exs]
  unfold gfrzM frzMK
  rfl
theorem gwhl_nil {i n : Nat} {gb : En → Option Res} (h : ρ[i]? = some (.l [])) : gwhl i gb (n + 1) ρ = some (.nx ρ) := by
  unfold gwhl
  rw [h]
theorem gwhl_nx {i n : Nat} {gb : En → Option Res} {d : D} {ds : List D} {ρ' : En} (h : ρ[i]? = some (.l (d :: ds))) (h2 : gb ρ = some (.nx ρ')) : gwhl i gb (n + 1) ρ = gwhl i gb n ρ' := by
  rw [gwhl, h]
  show (gb ρ).bind _ = _
  rw [h2]
  rfl
theorem gwhl_rt {i n : Nat} {gb : En → Option Res} {d x : D} {ds : List D} (h : ρ[i]? = some (.l (d :: ds))) (h2 : gb ρ = some (.rt x)) : gwhl i gb (n + 1) ρ = some (.rt x) := by
  rw [gwhl, h]
  show (gb ρ).bind _ = _
  rw [h2]
  rfl
def keysK : Option Sl → Option (List D)
  | some (.f kvs) => some (kvs.map (·.1))
  | _ => none
theorem keysK_f {k : List (D × D)} : keysK (some (.f k)) = some (k.map (·.1)) := (rfl)
theorem evI_keys {i : Nat} : evI S G (.keys i) ρ = keysK ρ[i]? := by
  rw [evI]
  unfold gkeys keysK
  rfl
/-! ### dicts as data; displays; steps -/
theorem gp_nil : gpairs (evP S G .nil) ρ = some [] := by rw [evP]; rfl
theorem gp_cons {k v : ME} {r : MPs} : gpairs (evP S G (.cons k v r)) ρ = (ev S G k ρ).bind fun x => (ev S G v ρ).bind fun y => (gpairs (evP S G r) ρ).bind fun ps => some ((x, y) :: ps) := by rw [evP]; rfl
def dicK (ps : List (D × D)) : Option D := (keyL (ps.map (·.1))).bind fun ks => if ks.Nodup ∧ ps.length ≤ 15 then some (.dic ks (ps.map (·.2))) else none
theorem ev_dic {ps : MPs} : ev S G (.dic ps) ρ = (gpairs (evP S G ps) ρ).bind dicK := by rw [ev]; rfl
theorem dicK_1 {k : Int} {x : D} : dicK [(.int k, x)] = some (.dic [.inl k] [x]) := by
  show (if [(Sum.inl k : Key)].Nodup ∧ 1 ≤ 15 then _ else none) = _
  rw [if_pos ⟨by simp, by omega⟩]
  rfl
theorem dicK_2 {k n : Int} {x y : D} (h : k ≠ n) : dicK [(.int k, x), (.int n, y)] = some (.dic [.inl k, .inl n] [x, y]) := by
  show (if [(Sum.inl k : Key), Sum.inl n].Nodup ∧ 2 ≤ 15 then _ else none) = _
  rw [if_pos ⟨by simp [h], by omega⟩]
  rfl
theorem dicK_3 {k n m : Int} {x y z : D} (h1 : k ≠ n) (h2 : k ≠ m) (h3 : n ≠ m) : dicK [(.int k, x), (.int n, y), (.int m, z)] = some (.dic [.inl k, .inl n, .inl m] [x, y, z]) := by
  show (if [(Sum.inl k : Key), Sum.inl n, Sum.inl m].Nodup ∧ 3 ≤ 15 then _ else none) = _
  rw [if_pos ⟨by simp [h1, h2, h3], by omega⟩]
  rfl
theorem ev_gdx {j : Nat} : ev S G (.gdx j a) ρ = (ev S G a ρ).bind (gdxL ((S.gdd[j]?.map (·.2)).getD [])) := by rw [ev]; rfl
theorem ev_dix : ev S G (.dix a b) ρ = (ev S G a ρ).bind fun x => (ev S G b ρ).bind (dixD x) := by rw [ev]; rfl
theorem ev_dgt : ev S G (.dgt a b c) ρ = (ev S G a ρ).bind fun x => (ev S G b ρ).bind fun y => (ev S G c ρ).bind (dgtD x y) := by rw [ev]; rfl
theorem dgt_int {ks : List Key} {xs : List D} {k : Int} {z : D} : dgtD (.dic ks xs) (.int k) z = some ((dlook ks xs (.inl k)).getD z) := (rfl)
theorem ev_sortM {i : Nat} : ev S G (.sortM i) ρ = (gdK ρ[i]?).bind sortM := by
  rw [ev, ← gdi_eq]
  rfl
theorem ev_stp {st : Int} : ev S G (.stp a b st) ρ = (ev S G a ρ).bind fun x => (ev S G b ρ).bind (stpD st x) := by rw [ev]; rfl
def setM1K (i : Nat) (ρ : En) (x v : D) : Option Res := if (keyD x).isSome then some (.nx (ρ.set i (.f [(x, v)]))) else none
theorem setM1K_of {i : Nat} {x v : D} (h : (keyD x).isSome = true) : setM1K i ρ x v = some (.nx (ρ.set i (.f [(x, v)]))) := if_pos h
theorem ex_setM1 {i : Nat} : ex S G (.setM1 i a b) ρ = (ev S G a ρ).bind fun x => (ev S G b ρ).bind (setM1K i ρ x) := by
  rw [ex]
  unfold gsetM1 gdn1 setM1K
  cases ev S G a ρ with
  | none => rfl
  | some x =>
    cases ev S G b ρ with
    | none => rfl
    | some y =>
      show Option.map _ (if _ then _ else _) = (if _ then _ else _)
      split <;> rfl
theorem ex_par3 {i j l : Nat} : ex S G (.par3 i j l a b c) ρ = (ev S G a ρ).bind fun x => (ev S G b ρ).bind fun y => (ev S G c ρ).bind fun z => some (.nx (((ρ.set i (.d x)).set j (.d y)).set l (.d z))) := by
  rw [ex]
  unfold gpar3 gcons gnil
  cases ev S G a ρ <;> cases ev S G b ρ <;> cases ev S G c ρ <;> rfl
def setCLK (i : Nat) (ρ : En) : D → Option Res
  | .lst xs => some (.nx (ρ.set i (.l xs)))
  | _ => none
theorem setCLK_l {i : Nat} {xs : List D} : setCLK i ρ (.lst xs) = some (.nx (ρ.set i (.l xs))) := (rfl)
theorem ex_setCL {i : Nat} {elt : ME} {t : Tg} {it : MI} {d : MO} : ex S G (.setCL i elt t it d) ρ = (ev S G (.comp elt t it d) ρ).bind (setCLK i ρ) := by
  rw [ex, ev]
  unfold gsetL fz
  cases gcomp t.slots (evI S G it) t (evC S G d) (ev S G elt) ρ <;> rfl
theorem ex_set2L {i j : Nat} : ex S G (.set2L i j) ρ = some (.nx ((ρ.set i (.l [])).set j (.l []))) := by rw [ex]; rfl
theorem ev_negE : ev S G (.negE a) ρ = (ev S G a ρ).bind negD := by rw [ev]; rfl
theorem neg_int {i : Int} : negD (.int i) = some (.int (-i)) := (rfl)
/-! tables -/
def dlK : Option Sl → Option D
  | some (.t d _ _) => some d
  | _ => none
theorem dlK_t {d r : D} {os : List D} : dlK (some (.t d r os)) = some d := (rfl)
theorem ev_tdl {i : Nat} : ev S G (.tdl i) ρ = dlK ρ[i]? := by rw [ev]; rfl
def ldK : Option Sl → Option D
  | some (.t _ r _) => some r
  | _ => none
theorem ldK_t {d r : D} {os : List D} : ldK (some (.t d r os)) = some r := (rfl)
theorem ev_tld {i : Nat} : ev S G (.tld i) ρ = ldK ρ[i]? := by rw [ev]; rfl
def ltK : Option Sl → Option D
  | some (.t _ _ os) => atI os (-1)
  | _ => none
theorem ltK_t {d r : D} {os : List D} : ltK (some (.t d r os)) = atI os (-1) := (rfl)
theorem ev_tlt {i : Nat} : ev S G (.tlt i) ρ = ltK ρ[i]? := by rw [ev]; rfl
def rwK (g : List D → Option D) : Option Sl → Option D
  | some (.t d r _) => (g [d]).bind fun _ => some r
  | _ => none
theorem rwK_t {g : List D → Option D} {d r : D} {os : List D} : rwK g (some (.t d r os)) = (g [d]).bind fun _ => some r := (rfl)
theorem ev_rowT {i : Nat} : ev S G (.rowT i) ρ = rwK (G 1002) ρ[i]? := by rw [ev]; rfl
def ovK (g : List D → Option D) : Option Sl → Option D
  | some (.t d _ os) => (g [d]).bind fun _ => atI os (-1)
  | _ => none
theorem ovK_t {g : List D → Option D} {d r : D} {os : List D} : ovK g (some (.t d r os)) = (g [d]).bind fun _ => atI os (-1) := (rfl)
theorem ev_ovrT {i : Nat} : ev S G (.ovrT i) ρ = ovK (G 1002) ρ[i]? := by rw [ev]; rfl
def cmK (g : List D → Option D) : Option Sl → Option D
  | some (.t d r os) => (g [d]).bind fun _ => comD r os
  | _ => none
theorem cmK_t {g : List D → Option D} {d r : D} {os : List D} : cmK g (some (.t d r os)) = (g [d]).bind fun _ => comD r os := (rfl)
theorem ev_comT {i : Nat} : ev S G (.comT i) ρ = cmK (G 1002) ρ[i]? := by rw [ev]; rfl
def fnK (g gs : List D → Option D) (y : D) : Option Sl → Option D
  | some (.t d r os) => (g [d]).bind fun _ => finT gs d r os y
  | _ => none
theorem fnK_t {g gs : List D → Option D} {y d r : D} {os : List D} : fnK g gs y (some (.t d r os)) = (g [d]).bind fun _ => finT gs d r os y := (rfl)
theorem ev_finT {i : Nat} : ev S G (.finT i a) ρ = (ev S G a ρ).bind fun y => fnK (G 1002) (G 1001) y ρ[i]? := by rw [ev]; rfl
theorem ex_mkT {i : Nat} : ex S G (.mkT i a) ρ = (ev S G a ρ).bind fun d => (G 1002 [d]).bind fun _ => some (.nx (ρ.set i (.t d (.tup []) [evenD]))) := by
  rw [ex]
  unfold gmkG
  cases ev S G a ρ with
  | none => rfl
  | some d =>
    show Option.map _ (G 1002 [d]) = Option.bind (G 1002 [d]) _
    cases G 1002 [d] <;> rfl
def trK (i : Nat) (ρ : En) (d : D) : TR → Option Res
  | .ok r os => some (.nx (ρ.set i (.t d r os)))
  | .no _ => none
theorem trK_ok {i : Nat} {d r : D} {os : List D} : trK i ρ d (.ok r os) = some (.nx (ρ.set i (.t d r os))) := (rfl)
def lyK (i : Nat) (ρ : En) (g gn : List D → Option D) (y : D) : Option Sl → Option Res
  | some (.t d r os) => (g [d]).bind fun _ => (layT gn d r os y).bind (trK i ρ d)
  | _ => none
theorem lyK_t {i : Nat} {g gn : List D → Option D} {y d r : D} {os : List D} : lyK i ρ g gn y (some (.t d r os)) = (g [d]).bind fun _ => (layT gn d r os y).bind (trK i ρ d) := (rfl)
theorem ex_layT {i : Nat} : ex S G (.layT i a) ρ = (ev S G a ρ).bind fun y => lyK i ρ (G 1002) (G 1000) y ρ[i]? := by
  rw [ex]
  unfold gmw1
  cases ev S G a ρ with
  | none => rfl
  | some y =>
    show (match ρ[i]? with | some (.t d r os) => _ | _ => none) = lyK i ρ (G 1002) (G 1000) y ρ[i]?
    cases ρ[i]? with
    | none => rfl
    | some s =>
      cases s with
      | t d r os =>
        show Option.bind (Option.bind (G 1002 [d]) _) _ = Option.bind (G 1002 [d]) _
        cases G 1002 [d] with
        | none => rfl
        | some z => rfl
      | _ => rfl
def bkK (i : Nat) (ρ : En) (g : List D → Option D) : Option Sl → Option Res
  | some (.t d r os) => (g [d]).bind fun _ => (backT r os).bind (trK i ρ d)
  | _ => none
theorem bkK_t {i : Nat} {g : List D → Option D} {d r : D} {os : List D} : bkK i ρ g (some (.t d r os)) = (g [d]).bind fun _ => (backT r os).bind (trK i ρ d) := (rfl)
theorem ex_mk2T {i j : Nat} : ex S G (.mk2T i j a) ρ = (ev S G a ρ).bind fun d => (G 1002 [d]).bind fun _ => some (.nx ((ρ.set i (.t d (.tup []) [evenD])).set j (.d (.tup [])))) := by
  rw [ex]
  unfold gmk2
  cases ev S G a ρ with
  | none => rfl
  | some d =>
    show Option.map _ (G 1002 [d]) = Option.bind (G 1002 [d]) _
    cases G 1002 [d] <;> rfl
theorem ev_srtS : ev S G (.srtS a) ρ = (ev S G a ρ).bind srtS := by rw [ev]; rfl
theorem ex_whE {n : Nat} {sb : MSs} : ex S G (.whE n a sb) ρ = gwhE (ft (ev S G a)) (exs S G sb) n ρ := by rw [ex]
theorem ev_fgt : ev S G (.fgt a) ρ = (ev S G a ρ).bind fun d => some (fgtD d) := by rw [ev]; rfl
theorem ev_addB : ev S G (.addB a b) ρ = (ev S G a ρ).bind fun x => (ev S G b ρ).bind (addB x) := by rw [ev]; rfl
theorem ev_cntB : ev S G (.cntB a b) ρ = (ev S G a ρ).bind fun x => (ev S G b ρ).bind (cntB x) := by rw [ev]; rfl
theorem fgt_btp {xs : List D} : fgtD (.btp xs) = .tup xs := (rfl)
theorem fgt_tup {xs : List D} : fgtD (.tup xs) = .tup xs := (rfl)
theorem fgt_non : fgtD .non = .non := (rfl)
theorem ev_rpl {y z : Nat} : ev S G (.rpl y z a) ρ = (ev S G a ρ).bind (rplD y z) := by rw [ev]; rfl
theorem ex_asgK {i : Nat} {t : Tg} {it : MI} : ex S G (.asgK i a t it) ρ = ex S G (.asg (.nm i) (.blt .tuple (.cons (.comp a t it .none) .nil))) ρ := by
  rw [ex, ex, ev, evs, evs, ev, evC]
  rfl
theorem ev_newC : ev S G (.newC a) ρ = (ev S G a ρ).bind fun d => (G 1002 [d]).bind fun _ => comD (.tup []) [evenD] := by rw [ev]; rfl
theorem ev_newF : ev S G (.newF a b) ρ = (ev S G a ρ).bind fun d => (ev S G b ρ).bind fun m => (G 1002 [d]).bind fun _ => finT (G 1001) d (.tup []) [evenD] m := by rw [ev]; rfl
def tlK (i : Nat) (ρ : En) (g : D → D → List D → D → Option (D × D × List D)) (f2 : En → Option D) (fb : En → Option Res) (n : D) : Option Sl → Option Res
  | some (.t d r os) => (g d r os n).bind fun y => (f2 (ρ.set i (.t d y.2.1 y.2.2))).bind fun z => (neD y.1 z).bind fun b => (bool1 b).bind fun b => if b then fb (ρ.set i (.t d y.2.1 y.2.2)) else some (.nx (ρ.set i (.t d y.2.1 y.2.2)))
  | _ => none
theorem tlK_t {i : Nat} {g : D → D → List D → D → Option (D × D × List D)} {f2 : En → Option D} {fb : En → Option Res} {n d r : D} {os : List D} : tlK i ρ g f2 fb n (some (.t d r os)) = (g d r os n).bind fun y => (f2 (ρ.set i (.t d y.2.1 y.2.2))).bind fun z => (neD y.1 z).bind fun b => (bool1 b).bind fun b => if b then fb (ρ.set i (.t d y.2.1 y.2.2)) else some (.nx (ρ.set i (.t d y.2.1 y.2.2))) := (rfl)
theorem ex_tolT {i : Nat} {s : MSs} : ex S G (.tolT i a b s) ρ = (ev S G a ρ).bind fun n => tlK i ρ (gTold (G 1004) (G 1003)) (ev S G b) (exs S G s) n ρ[i]? := by
  rw [ex]
  rfl
theorem ex_mkTs {i : Nat} {t : Tg} {it : MI} : ex S G (.mkTs i a t it) ρ = (gcomp t.slots (evI S G it) t gyes (ev S G a) ρ).bind fun ds => (G 1002 [.lst ds]).map fun _ => .nx (ρ.set i (.ow (ds.map newT))) := by
  rw [ex]
  rfl
theorem ex_set2W {i j : Nat} : ex S G (.set2W i j) ρ = some (.nx ((ρ.set i ow3).set j ow3)) := by
  rw [ex]
  rfl
theorem ex_appW {i : Nat} : ex S G (.appW i a b) ρ = (ev S G a ρ).bind fun n => (ev S G b ρ).bind fun d => putW i ρ n d := by
  rw [ex]
  rfl
theorem ex_appV {i j : Nat} {c : ME} : ex S G (.appV i j a b c) ρ = gappV (decL (G 1005)) i j (ev S G a) (ev S G b) (ev S G c) ρ := by rw [ex]
theorem ex_lonW {i jr jc cv js : Nat} {s : MSs} : ex S G (.lonW i jr jc cv js a s) ρ = glon (decL (G 1005)) (G js) i jr jc cv (ev S G a) (exs S G s) ρ := by rw [ex]
theorem ex_bakT {i : Nat} : ex S G (.bakT i) ρ = bkK i ρ (G 1002) ρ[i]? := by
  rw [ex]
  unfold gmw0
  cases ρ[i]? with
  | none => rfl
  | some s =>
    cases s with
    | t d r os =>
      show Option.bind (Option.bind (G 1002 [d]) _) _ = Option.bind (G 1002 [d]) _
      cases G 1002 [d] with
      | none => rfl
      | some z => rfl
    | _ => rfl
end
end DL
end
section
namespace DL
open PySem PySem.Spec L2

/-! ### equality of data -/
mutual
def gdp : Nat → D → Bool
  | _, .non => true
  | _, .bl _ => true
  | _, .int _ => true
  | _, .str l => l.all fun c => decide (c < 1114112)
  | n, .lst xs => gdps n xs
  | n, .tup xs => gdps n xs
  | _, .scr _ => false
  | _, .dic _ _ => false
  | _, .btp _ => false
def gdps : Nat → List D → Bool
  | 0, _ => false
  | _ + 1, [] => true
  | n + 1, x :: xs => gdp n x && gdps (n + 1) xs
end
mutual
theorem gdp_ok : ∀ (n : Nat) (d : D), gdp n d = true → (toPy d).canLay0 = true ∧ (toPy d).depth ≤ n
  | _, .non, _ => by rw [toPy]; exact ⟨rfl, Nat.zero_le _⟩
  | _, .bl _, _ => by rw [toPy]; exact ⟨by simp [PyData.canLay0], by simp [PyData.depth]⟩
  | _, .int _, _ => by rw [toPy]; exact ⟨by simp [PyData.canLay0], by simp [PyData.depth]⟩
  | n, .str l, h => by
    rw [toPy]
    rw [gdp] at h
    refine ⟨?_, by simp [PyData.depth]⟩
    simp only [PyData.canLay0, PyData.strOk, mkS]
    rw [List.all_eq_true] at h
    rw [Array.all_eq_true]
    intro i hi
    exact h _ (by simp)
  | n, .lst xs, h => by
    rw [toPy]
    rw [gdp] at h
    obtain ⟨h1, h2⟩ := gdps_ok n xs h
    refine ⟨?_, ?_⟩
    · simp only [PyData.canLay0]
      exact h1
    · simp only [PyData.depth]
      cases n with
      | zero => unfold gdps at h; cases h
      | succ n => simp at h2; omega
  | n, .tup xs, h => by
    rw [toPy]
    rw [gdp] at h
    obtain ⟨h1, h2⟩ := gdps_ok n xs h
    refine ⟨?_, ?_⟩
    · simp only [PyData.canLay0]
      exact h1
    · simp only [PyData.depth]
      cases n with
      | zero => unfold gdps at h; cases h
      | succ n => simp at h2; omega
  | n, .scr _, h => by rw [gdp] at h; cases h
  | n, .dic _ _, h => by rw [gdp] at h; cases h
  | n, .btp _, h => by rw [gdp] at h; cases h
theorem gdps_ok : ∀ (n : Nat) (xs : List D), gdps n xs = true → PyData.canLayAll0 (toPys xs) = true ∧ PyData.depthAll (toPys xs) ≤ n - 1
  | 0, _, h => by unfold gdps at h; cases h
  | n + 1, [], _ => by rw [toPys]; exact ⟨by simp [PyData.canLayAll0], by simp [PyData.depthAll]⟩
  | n + 1, x :: xs, h => by
    rw [gdps, Bool.and_eq_true] at h
    obtain ⟨h1, h2⟩ := gdp_ok n x h.1
    obtain ⟨h3, h4⟩ := gdps_ok (n + 1) xs h.2
    rw [toPys]
    simp only [PyData.canLayAll0, PyData.depthAll, h1, h3]
    exact ⟨rfl, by simp at h4; simp; omega⟩
end
theorem okD_of {n : Nat} {d : D} (h : gdp n d = true) (hn : n ≤ 64) : okD d = true := by
  obtain ⟨h1, h2⟩ := gdp_ok n d h
  unfold okD SeqAt.shaped
  rw [h1]
  exact decide_eq_true (by omega)
theorem gdp_int {n : Nat} {i : Int} : gdp n (.int i) = true := by rw [gdp]
theorem gdp_non {n : Nat} : gdp n .non = true := by rw [gdp]
theorem gdp_bl {n : Nat} {b : Bool} : gdp n (.bl b) = true := by rw [gdp]
theorem gdp_str {n : Nat} {l : List Nat} : gdp n (.str l) = l.all fun c => decide (c < 1114112) := by rw [gdp]
theorem gdps_all {n : Nat} : ∀ {xs : List D}, gdps (n + 1) xs = xs.all (gdp n)
  | [] => by rw [gdps]; rfl
  | x :: xs => by rw [gdps, gdps_all]; rfl
theorem gdp_tup {n : Nat} {xs : List D} : gdp (n + 1) (.tup xs) = xs.all (gdp n) := by rw [gdp, gdps_all]
theorem gdp_lst {n : Nat} {xs : List D} : gdp (n + 1) (.lst xs) = xs.all (gdp n) := by rw [gdp, gdps_all]
def Clean (n : Nat) (d : D) : Prop := gdp n d = true
theorem clean_tup {n : Nat} {xs : List D} (h : ∀ x ∈ xs, gdp n x = true) : gdp (n + 1) (.tup xs) = true := by rw [gdp_tup, List.all_eq_true]; exact h
theorem clean_lst {n : Nat} {xs : List D} (h : ∀ x ∈ xs, gdp n x = true) : gdp (n + 1) (.lst xs) = true := by rw [gdp_lst, List.all_eq_true]; exact h
theorem clean_str {n : Nat} {l : List Nat} (h : ∀ c ∈ l, c < 1114112) : gdp n (.str l) = true := by rw [gdp_str, List.all_eq_true]; exact fun c hc => decide_eq_true (h c hc)
theorem eq_of {n m : Nat} {x y : D} (h : gdp n x = true) (h' : gdp m y = true) (hn : n ≤ 64) (hm : m ≤ 64) : eqD x y = some (.bl (deq x y)) := by
  unfold eqD
  rw [okD_of h hn, okD_of h' hm]
  rfl
theorem ne_of' {n m : Nat} {x y : D} (h : gdp n x = true) (h' : gdp m y = true) (hn : n ≤ 64) (hm : m ≤ 64) : neD x y = some (.bl (!deq x y)) := by
  unfold neD
  rw [okD_of h hn, okD_of h' hm]
  rfl
theorem in_tup {n m : Nat} {x : D} {ys : List D} (h : gdp n x = true) (h' : gdp m (.tup ys) = true) (hn : n ≤ 64) (hm : m ≤ 64) : inD x (.tup ys) = some (.bl (ys.any fun z => deq z x)) := by
  show (if okD x && okD (.tup ys) then _ else none) = _
  rw [okD_of h hn, okD_of h' hm]
  rfl
theorem in_lst {n m : Nat} {x : D} {ys : List D} (h : gdp n x = true) (h' : gdp m (.lst ys) = true) (hn : n ≤ 64) (hm : m ≤ 64) : inD x (.lst ys) = some (.bl (ys.any fun z => deq z x)) := by
  show (if okD x && okD (.lst ys) then _ else none) = _
  rw [okD_of h hn, okD_of h' hm]
  rfl
theorem nin_tup {n m : Nat} {x : D} {ys : List D} (h : gdp n x = true) (h' : gdp m (.tup ys) = true) (hn : n ≤ 64) (hm : m ≤ 64) : ninD x (.tup ys) = some (.bl (!ys.any fun z => deq z x)) := by
  show (if okD x && okD (.tup ys) then _ else none) = _
  rw [okD_of h hn, okD_of h' hm]
  rfl
theorem nin_lst {n m : Nat} {x : D} {ys : List D} (h : gdp n x = true) (h' : gdp m (.lst ys) = true) (hn : n ≤ 64) (hm : m ≤ 64) : ninD x (.lst ys) = some (.bl (!ys.any fun z => deq z x)) := by
  show (if okD x && okD (.lst ys) then _ else none) = _
  rw [okD_of h hn, okD_of h' hm]
  rfl
theorem deq_int {i j : Int} : deq (.int i) (.int j) = decide (i = j) := by
  unfold deq
  rw [toPy, toPy, PyData.eqv]
  rw [Bool.eq_iff_iff]
  simp
theorem deq_str {l m : List Nat} : deq (.str l) (.str m) = decide (l = m) := by
  unfold deq
  rw [toPy, toPy, PyData.eqv]
  by_cases h : l = m
  · subst h
    simp
  · rw [decide_eq_false h]
    exact beq_eq_false_iff_ne.mpr fun z => h (mkS_inj z)
theorem deq_bl {b c : Bool} : deq (.bl b) (.bl c) = decide (b = c) := by
  unfold deq
  rw [toPy, toPy, PyData.eqv]
  cases b <;> cases c <;> rfl
theorem deq_non : deq .non .non = true := by
  unfold deq
  rw [toPy, PyData.eqv]
def deqs : List D → List D → Bool
  | [], [] => true
  | x :: xs, y :: ys => deq x y && deqs xs ys
  | _, _ => false
theorem eqvAll_deqs : ∀ xs ys : List D, PyData.eqvAll (toPys xs) (toPys ys) = deqs xs ys
  | [], [] => by rw [toPys, PyData.eqvAll]; rfl
  | x :: xs, y :: ys => by
    rw [toPys, toPys, PyData.eqvAll, eqvAll_deqs xs ys]
    rfl
  | [], y :: ys => by rw [toPys, toPys, PyData.eqvAll]; rfl
  | x :: xs, [] => by rw [toPys, toPys, PyData.eqvAll]; rfl
theorem deq_tup {xs ys : List D} : deq (.tup xs) (.tup ys) = deqs xs ys := by
  unfold deq
  rw [toPy, toPy, PyData.eqv, eqvAll_deqs]
theorem deq_lst {xs ys : List D} : deq (.lst xs) (.lst ys) = deqs xs ys := by
  unfold deq
  rw [toPy, toPy, PyData.eqv, eqvAll_deqs]
theorem deq_nt {xs : List D} : deq .non (.tup xs) = false := by unfold deq; rw [toPy, toPy, PyData.eqv]
theorem deq_tn {xs : List D} : deq (.tup xs) .non = false := by unfold deq; rw [toPy, toPy, PyData.eqv]
theorem deq_ns {l : List Nat} : deq .non (.str l) = false := by unfold deq; rw [toPy, toPy, PyData.eqv]
theorem deq_sn {l : List Nat} : deq (.str l) .non = false := by unfold deq; rw [toPy, toPy, PyData.eqv]
theorem deq_st {l : List Nat} {xs : List D} : deq (.str l) (.tup xs) = false := by unfold deq; rw [toPy, toPy, PyData.eqv]
theorem deq_ts {l : List Nat} {xs : List D} : deq (.tup xs) (.str l) = false := by unfold deq; rw [toPy, toPy, PyData.eqv]
mutual
theorem deq_refl : ∀ (n : Nat) (d : D), gdp n d = true → deq d d = true
  | _, .non, _ => deq_non
  | _, .bl b, _ => by rw [deq_bl]; simp
  | _, .int i, _ => by rw [deq_int]; simp
  | _, .str l, _ => by rw [deq_str]; simp
  | n, .lst xs, h => by rw [deq_lst]; rw [gdp] at h; exact deqs_refl n xs h
  | n, .tup xs, h => by rw [deq_tup]; rw [gdp] at h; exact deqs_refl n xs h
  | n, .scr _, h => by rw [gdp] at h; cases h
  | n, .dic _ _, h => by rw [gdp] at h; cases h
  | n, .btp _, h => by rw [gdp] at h; cases h
theorem deqs_refl : ∀ (n : Nat) (xs : List D), gdps n xs = true → deqs xs xs = true
  | 0, _, h => by unfold gdps at h; cases h
  | n + 1, [], _ => rfl
  | n + 1, x :: xs, h => by
    rw [gdps, Bool.and_eq_true] at h
    unfold deqs
    rw [deq_refl n x h.1, deqs_refl (n + 1) xs h.2]
    rfl
end
/-- data that are equal as they are coded -/
theorem deqs_map {α : Type} {e : α → D} (he : ∀ x y, deq (e x) (e y) = true ↔ x = y) : ∀ (xs ys : List α), deqs (xs.map e) (ys.map e) = true ↔ xs = ys
  | [], [] => by simp [deqs]
  | [], y :: ys => by simp [deqs]
  | x :: xs, [] => by simp [deqs]
  | x :: xs, y :: ys => by
    simp only [List.map_cons, deqs, Bool.and_eq_true, he, deqs_map he xs ys, List.cons.injEq]
theorem any_map_mem {α : Type} {e : α → D} (he : ∀ x y, deq (e x) (e y) = true ↔ x = y) (xs : List α) (x : α) : ((xs.map e).any fun z => deq z (e x)) = true ↔ x ∈ xs := by
  rw [List.any_eq_true]
  constructor
  · rintro ⟨z, hz, hq⟩
    obtain ⟨y, hy, rfl⟩ := List.mem_map.mp hz
    rw [(he y x).mp hq] at hy
    exact hy
  · intro hx
    exact ⟨e x, List.mem_map.mpr ⟨x, hx, rfl⟩, (he x x).mpr rfl⟩
theorem deq_ints {i j : Int} : deq (D.int i) (D.int j) = true ↔ i = j := by rw [deq_int]; simp
theorem deq_strs {l m : List Nat} : deq (D.str l) (D.str m) = true ↔ l = m := by rw [deq_str]; simp

theorem eq_int {i j : Int} : eqD (.int i) (.int j) = some (.bl (decide (i = j))) := by rw [eq_of (n := 1) (m := 1) gdp_int gdp_int (by omega) (by omega), deq_int]
theorem ne_int {i j : Int} : neD (.int i) (.int j) = some (.bl (!decide (i = j))) := by rw [ne_of' (n := 1) (m := 1) gdp_int gdp_int (by omega) (by omega), deq_int]
theorem eq_str {l m : List Nat} (hl : ∀ c ∈ l, c < 1114112) (hm : ∀ c ∈ m, c < 1114112) : eqD (.str l) (.str m) = some (.bl (decide (l = m))) := by rw [eq_of (n := 1) (m := 1) (clean_str hl) (clean_str hm) (by omega) (by omega), deq_str]
theorem ne_str {l m : List Nat} (hl : ∀ c ∈ l, c < 1114112) (hm : ∀ c ∈ m, c < 1114112) : neD (.str l) (.str m) = some (.bl (!decide (l = m))) := by rw [ne_of' (n := 1) (m := 1) (clean_str hl) (clean_str hm) (by omega) (by omega), deq_str]
theorem in_ints {w : Int} {ns : List Int} : inD (.int w) (.tup (ns.map D.int)) = some (.bl (decide (w ∈ ns))) := by
  rw [in_tup (n := 1) (m := 2) gdp_int (clean_tup fun x hx => by obtain ⟨n, _, rfl⟩ := List.mem_map.mp hx; exact gdp_int) (by omega) (by omega)]
  congr 2
  rw [Bool.eq_iff_iff, any_map_mem fun x y => deq_ints, decide_eq_true_eq]

/-! ### parts of lists -/
theorem cut_to {α : Type} (xs : List α) (n : Nat) : cut xs none (some (n : Int)) = xs.take n := by
  unfold cut
  rw [HT.sIx_none, HT.sIx_nat]
  simp
theorem cut_from {α : Type} (xs : List α) (n : Nat) : cut xs (some (n : Int)) none = xs.drop n := by
  unfold cut
  rw [HT.sIx_none, HT.sIx_nat]
  rw [List.take_of_length_le (by simp)]
  by_cases h : n ≤ xs.length
  · rw [Nat.min_eq_left h]
  · rw [Nat.min_eq_right (by omega), List.drop_length, List.drop_of_length_le (by omega)]
theorem cut_mid {α : Type} (xs : List α) (n m : Nat) : cut xs (some (n : Int)) (some (m : Int)) = (xs.take m).drop n := by
  unfold cut
  rw [HT.sIx_nat, HT.sIx_nat, List.drop_take]
  by_cases h : n ≤ xs.length
  · rw [Nat.min_eq_left h]
    by_cases h2 : m ≤ xs.length
    · rw [Nat.min_eq_left h2]
    · rw [Nat.min_eq_right (by omega), List.take_of_length_le (by simp), List.take_of_length_le (by simp; omega)]
  · rw [Nat.min_eq_right (a := n) (by omega), List.drop_length, List.drop_of_length_le (l := xs) (by omega)]
    simp
theorem sIx_neg (n d k : Nat) (hk : 0 < k) : HT.sIx n d (some (-(k : Int))) = n - k := by
  have h := HT.clip_eq (-(k : Int)) n d
  rw [if_pos (by omega)] at h
  omega
theorem cut_last {α : Type} (xs : List α) (k : Nat) (hk : 0 < k) : cut xs (some (-(k : Int))) none = xs.drop (xs.length - k) := by
  unfold cut
  rw [HT.sIx_none, sIx_neg _ _ _ hk, List.take_of_length_le (by simp)]
theorem cut_init {α : Type} (xs : List α) (k : Nat) (hk : 0 < k) : cut xs none (some (-(k : Int))) = xs.take (xs.length - k) := by
  unfold cut
  rw [HT.sIx_none, sIx_neg _ _ _ hk]
  simp
theorem cut_map {α β : Type} (f : α → β) (xs : List α) (lo hi : Option Int) : cut (xs.map f) lo hi = (cut xs lo hi).map f := by
  unfold cut
  rw [List.length_map, List.map_take, List.map_drop]
theorem cut_len {α : Type} (xs : List α) (lo hi : Option Int) : (cut xs lo hi).length ≤ xs.length := by
  unfold cut
  rw [List.length_take, List.length_drop]
  omega
theorem mem_cut {α : Type} {xs : List α} {lo hi : Option Int} {x : α} (h : x ∈ cut xs lo hi) : x ∈ xs := List.mem_of_mem_drop (List.mem_of_mem_take h)
theorem atI_nat' {α : Type} (xs : List α) (j : Nat) : atI xs (j : Int) = xs[j]? := by
  unfold L2.atI ixN
  rw [if_pos (by omega)]
  by_cases h : j < xs.length
  · rw [if_pos (by omega)]
    simp
  · rw [if_neg (by omega)]
    rw [List.getElem?_eq_none (by omega)]
    rfl
/-- joining with nothing between -/
theorem joinL_nil : ∀ ls : List (List Nat), TL.joinL [] ls = ls.flatten
  | [] => rfl
  | [l] => by show l = _; simp
  | l :: m :: ls => by
    show l ++ ([] ++ TL.joinL [] (m :: ls)) = _
    rw [joinL_nil (m :: ls)]
    simp
/-- a text begins, ends with another -/
theorem starts_eq (a b : List Nat) : Txt.startswith (mkS a) (mkS b) = b.isPrefixOf a := by
  rw [Bool.eq_iff_iff, List.isPrefixOf_iff_prefix, List.prefix_iff_eq_take]
  unfold Txt.startswith
  rw [StrLaws.subAt_eq, mkS_length, mkS_length]
  show (decide (0 + b.length ≤ a.length) && ((a.drop 0).take b.length == b)) = true ↔ _
  rw [List.drop_zero, Bool.and_eq_true, decide_eq_true_eq, beq_iff_eq]
  constructor
  · rintro ⟨_, h⟩
    exact h.symm
  · intro h
    refine ⟨?_, h.symm⟩
    have := congrArg List.length h
    rw [List.length_take] at this
    omega
theorem ends_eq (a b : List Nat) : Txt.endswith (mkS a) (mkS b) = b.isSuffixOf a := by
  rw [Bool.eq_iff_iff, List.isSuffixOf_iff_suffix, List.suffix_iff_eq_drop]
  unfold Txt.endswith
  rw [StrLaws.subAt_eq, mkS_length, mkS_length]
  show (decide (0 + b.length ≤ a.length) && ((a.drop (a.length - b.length)).take b.length == b)) = true ↔ _
  rw [Bool.and_eq_true, decide_eq_true_eq, beq_iff_eq]
  constructor
  · rintro ⟨h0, h⟩
    rw [List.take_of_length_le (by rw [List.length_drop]; omega)] at h
    exact h.symm
  · intro h
    have hl := congrArg List.length h
    rw [List.length_drop] at hl
    refine ⟨by omega, ?_⟩
    rw [List.take_of_length_le (by rw [List.length_drop]; omega)]
    exact h.symm

/-! ### isinstance -/
theorem isi_eq {T : String} {x : D} {b : Bool} (hs : isScr x = false) (h : kitB (tyN x) T = some b) : isiD T x = some (.bl b) := by
  unfold isiD
  rw [hs, h]
  rfl
theorem isi_tuple_non : isiD Ty.tuple.nm .non = some (.bl false) := isi_eq rfl (show kitB "NoneType" "tuple" = some false by decide +kernel)
theorem isi_tuple_bl {b : Bool} : isiD Ty.tuple.nm (.bl b) = some (.bl false) := isi_eq rfl (show kitB "bool" "tuple" = some false by decide +kernel)
theorem isi_tuple_int {i : Int} : isiD Ty.tuple.nm (.int i) = some (.bl false) := isi_eq rfl (show kitB "int" "tuple" = some false by decide +kernel)
theorem isi_tuple_str {l : List Nat} : isiD Ty.tuple.nm (.str l) = some (.bl false) := isi_eq rfl (show kitB "str" "tuple" = some false by decide +kernel)
theorem isi_tuple_lst {xs : List D} : isiD Ty.tuple.nm (.lst xs) = some (.bl false) := isi_eq rfl (show kitB "list" "tuple" = some false by decide +kernel)
theorem isi_tuple_tup {xs : List D} : isiD Ty.tuple.nm (.tup xs) = some (.bl true) := isi_eq rfl (show kitB "tuple" "tuple" = some true by decide +kernel)
theorem isi_str_non : isiD Ty.str.nm .non = some (.bl false) := isi_eq rfl (show kitB "NoneType" "str" = some false by decide +kernel)
theorem isi_str_bl {b : Bool} : isiD Ty.str.nm (.bl b) = some (.bl false) := isi_eq rfl (show kitB "bool" "str" = some false by decide +kernel)
theorem isi_str_int {i : Int} : isiD Ty.str.nm (.int i) = some (.bl false) := isi_eq rfl (show kitB "int" "str" = some false by decide +kernel)
theorem isi_str_str {l : List Nat} : isiD Ty.str.nm (.str l) = some (.bl true) := isi_eq rfl (show kitB "str" "str" = some true by decide +kernel)
theorem isi_str_lst {xs : List D} : isiD Ty.str.nm (.lst xs) = some (.bl false) := isi_eq rfl (show kitB "list" "str" = some false by decide +kernel)
theorem isi_str_tup {xs : List D} : isiD Ty.str.nm (.tup xs) = some (.bl false) := isi_eq rfl (show kitB "tuple" "str" = some false by decide +kernel)
theorem isi_int_non : isiD Ty.int.nm .non = some (.bl false) := isi_eq rfl (show kitB "NoneType" "int" = some false by decide +kernel)
theorem isi_int_bl {b : Bool} : isiD Ty.int.nm (.bl b) = some (.bl true) := isi_eq rfl (show kitB "bool" "int" = some true by decide +kernel)
theorem isi_int_int {i : Int} : isiD Ty.int.nm (.int i) = some (.bl true) := isi_eq rfl (show kitB "int" "int" = some true by decide +kernel)
theorem isi_int_str {l : List Nat} : isiD Ty.int.nm (.str l) = some (.bl false) := isi_eq rfl (show kitB "str" "int" = some false by decide +kernel)
theorem isi_int_lst {xs : List D} : isiD Ty.int.nm (.lst xs) = some (.bl false) := isi_eq rfl (show kitB "list" "int" = some false by decide +kernel)
theorem isi_int_tup {xs : List D} : isiD Ty.int.nm (.tup xs) = some (.bl false) := isi_eq rfl (show kitB "tuple" "int" = some false by decide +kernel)
theorem isi_bool_non : isiD Ty.bool.nm .non = some (.bl false) := isi_eq rfl (show kitB "NoneType" "bool" = some false by decide +kernel)
theorem isi_bool_bl {b : Bool} : isiD Ty.bool.nm (.bl b) = some (.bl true) := isi_eq rfl (show kitB "bool" "bool" = some true by decide +kernel)
theorem isi_bool_int {i : Int} : isiD Ty.bool.nm (.int i) = some (.bl false) := isi_eq rfl (show kitB "int" "bool" = some false by decide +kernel)
theorem isi_bool_str {l : List Nat} : isiD Ty.bool.nm (.str l) = some (.bl false) := isi_eq rfl (show kitB "str" "bool" = some false by decide +kernel)
theorem isi_bool_lst {xs : List D} : isiD Ty.bool.nm (.lst xs) = some (.bl false) := isi_eq rfl (show kitB "list" "bool" = some false by decide +kernel)
theorem isi_bool_tup {xs : List D} : isiD Ty.bool.nm (.tup xs) = some (.bl false) := isi_eq rfl (show kitB "tuple" "bool" = some false by decide +kernel)
theorem isi_list_non : isiD Ty.list.nm .non = some (.bl false) := isi_eq rfl (show kitB "NoneType" "list" = some false by decide +kernel)
theorem isi_list_bl {b : Bool} : isiD Ty.list.nm (.bl b) = some (.bl false) := isi_eq rfl (show kitB "bool" "list" = some false by decide +kernel)
theorem isi_list_int {i : Int} : isiD Ty.list.nm (.int i) = some (.bl false) := isi_eq rfl (show kitB "int" "list" = some false by decide +kernel)
theorem isi_list_str {l : List Nat} : isiD Ty.list.nm (.str l) = some (.bl false) := isi_eq rfl (show kitB "str" "list" = some false by decide +kernel)
theorem isi_list_lst {xs : List D} : isiD Ty.list.nm (.lst xs) = some (.bl true) := isi_eq rfl (show kitB "list" "list" = some true by decide +kernel)
theorem isi_list_tup {xs : List D} : isiD Ty.list.nm (.tup xs) = some (.bl false) := isi_eq rfl (show kitB "tuple" "list" = some false by decide +kernel)
theorem isi2_eq {T U : String} {x : D} {b c : Bool} (hs : isScr x = false) (h : kitB (tyN x) T = some b) (h' : kitB (tyN x) U = some c) : isi2D T U x = some (.bl (b || c)) := by
  unfold isi2D
  rw [hs, h]
  cases b with
  | true => rfl
  | false =>
    show (kitB (tyN x) U).map D.bl = _
    rw [h']
    rfl
theorem isi2_int_str_non : isi2D Ty.int.nm Ty.str.nm .non = some (.bl false) := isi2_eq (b := false) (c := false) rfl (show kitB "NoneType" "int" = some false by decide +kernel) (show kitB "NoneType" "str" = some false by decide +kernel)
theorem isi2_int_str_bl {b : Bool} : isi2D Ty.int.nm Ty.str.nm (.bl b) = some (.bl true) := isi2_eq (b := true) (c := false) rfl (show kitB "bool" "int" = some true by decide +kernel) (show kitB "bool" "str" = some false by decide +kernel)
theorem isi2_int_str_int {i : Int} : isi2D Ty.int.nm Ty.str.nm (.int i) = some (.bl true) := isi2_eq (b := true) (c := false) rfl (show kitB "int" "int" = some true by decide +kernel) (show kitB "int" "str" = some false by decide +kernel)
theorem isi2_int_str_str {l : List Nat} : isi2D Ty.int.nm Ty.str.nm (.str l) = some (.bl true) := isi2_eq (b := false) (c := true) rfl (show kitB "str" "int" = some false by decide +kernel) (show kitB "str" "str" = some true by decide +kernel)
theorem isi2_int_str_lst {xs : List D} : isi2D Ty.int.nm Ty.str.nm (.lst xs) = some (.bl false) := isi2_eq (b := false) (c := false) rfl (show kitB "list" "int" = some false by decide +kernel) (show kitB "list" "str" = some false by decide +kernel)
theorem isi2_int_str_tup {xs : List D} : isi2D Ty.int.nm Ty.str.nm (.tup xs) = some (.bl false) := isi2_eq (b := false) (c := false) rfl (show kitB "tuple" "int" = some false by decide +kernel) (show kitB "tuple" "str" = some false by decide +kernel)

/-! ### data of tuples, texts, numbers, truths and None alone -/
mutual
def nic : Nat → D → Bool
  | _, .non => true
  | _, .bl _ => true
  | _, .int _ => true
  | _, .str l => l.all fun c => decide (c < 1114112)
  | _, .lst _ => false
  | n, .tup xs => decide (xs.length ≤ 100000) && nics n xs
  | _, .scr _ => false
  | _, .dic _ _ => false
  | _, .btp _ => false
def nics : Nat → List D → Bool
  | 0, _ => false
  | _ + 1, [] => true
  | n + 1, x :: xs => nic n x && nics (n + 1) xs
end
theorem nics_all {n : Nat} : ∀ {xs : List D}, nics (n + 1) xs = xs.all (nic n)
  | [] => by rw [nics]; rfl
  | x :: xs => by rw [nics, nics_all]; rfl
mutual
theorem nic_gdp : ∀ (n : Nat) (d : D), nic n d = true → gdp n d = true
  | _, .non, _ => by rw [gdp]
  | _, .bl _, _ => by rw [gdp]
  | _, .int _, _ => by rw [gdp]
  | _, .str l, h => by rw [gdp]; rw [nic] at h; exact h
  | _, .lst _, h => by rw [nic] at h; cases h
  | n, .tup xs, h => by rw [gdp]; rw [nic, Bool.and_eq_true] at h; exact nics_gdps n xs h.2
  | _, .scr _, h => by rw [nic] at h; cases h
  | _, .dic _ _, h => by rw [nic] at h; cases h
  | _, .btp _, h => by rw [nic] at h; cases h
theorem nics_gdps : ∀ (n : Nat) (xs : List D), nics n xs = true → gdps n xs = true
  | 0, _, h => by unfold nics at h; cases h
  | n + 1, [], _ => by rw [gdps]
  | n + 1, x :: xs, h => by
    rw [nics, Bool.and_eq_true] at h
    rw [gdps, nic_gdp n x h.1, nics_gdps (n + 1) xs h.2]
    rfl
end
theorem nic_tup {n : Nat} {xs : List D} (hl : xs.length ≤ 100000) (h : ∀ x ∈ xs, nic n x = true) : nic (n + 1) (.tup xs) = true := by rw [nic, nics_all, Bool.and_eq_true, List.all_eq_true]; exact ⟨decide_eq_true hl, h⟩
theorem nic_str {n : Nat} {l : List Nat} (h : ∀ c ∈ l, c < 1114112) : nic n (.str l) = true := by rw [nic, List.all_eq_true]; exact fun c hc => decide_eq_true (h c hc)
theorem nic_int {n : Nat} {i : Int} : nic n (.int i) = true := by rw [nic]
theorem nic_bl {n : Nat} {b : Bool} : nic n (.bl b) = true := by rw [nic]
theorem nic_non {n : Nat} : nic n .non = true := by rw [nic]
theorem zipD_self : ∀ xs : List D, zipD xs xs = xs.map fun x => .tup [x, x]
  | [] => rfl
  | x :: xs => by
    have ih := zipD_self xs
    unfold zipD at ih ⊢
    rw [List.zip_cons_cons, List.map_cons, ih]
    rfl
/-! ### data of bounded size -/
mutual
def fd (B : Nat) : Nat → D → Bool
  | _, .non => true
  | _, .bl _ => true
  | _, .int _ => true
  | _, .str l => decide (l.length ≤ B) && l.all fun c => decide (c < 128)
  | n, .lst xs => decide (xs.length ≤ B) && fds B n xs
  | n, .tup xs => decide (xs.length ≤ B) && fds B n xs
  | _, .scr _ => false
  | _, .dic _ _ => false
  | _, .btp _ => false
def fds (B : Nat) : Nat → List D → Bool
  | 0, _ => false
  | _ + 1, [] => true
  | n + 1, x :: xs => fd B n x && fds B (n + 1) xs
end
theorem fds_all {B n : Nat} : ∀ {xs : List D}, fds B (n + 1) xs = xs.all (fd B n)
  | [] => by rw [fds]; rfl
  | x :: xs => by rw [fds, fds_all, List.all_cons]
theorem fd_tup {B n : Nat} {xs : List D} (hl : xs.length ≤ B) (h : ∀ x ∈ xs, fd B n x = true) : fd B (n + 1) (.tup xs) = true := by
  rw [fd, fds_all, Bool.and_eq_true, List.all_eq_true]
  exact ⟨decide_eq_true hl, h⟩
theorem fd_lst {B n : Nat} {xs : List D} (hl : xs.length ≤ B) (h : ∀ x ∈ xs, fd B n x = true) : fd B (n + 1) (.lst xs) = true := by
  rw [fd, fds_all, Bool.and_eq_true, List.all_eq_true]
  exact ⟨decide_eq_true hl, h⟩
theorem fd_str {B n : Nat} {l : List Nat} (hl : l.length ≤ B) (h : ∀ c ∈ l, c < 128) : fd B n (.str l) = true := by
  rw [fd, Bool.and_eq_true, List.all_eq_true]
  exact ⟨decide_eq_true hl, fun c hc => decide_eq_true (h c hc)⟩
theorem fd_int {B n : Nat} {i : Int} : fd B n (.int i) = true := by rw [fd]
theorem fd_bl {B n : Nat} {b : Bool} : fd B n (.bl b) = true := by rw [fd]
theorem fd_non {B n : Nat} : fd B n .non = true := by rw [fd]
theorem fd_tup_iff {B n : Nat} {xs : List D} (h : fd B n (.tup xs) = true) : ∃ m, n = m + 1 ∧ xs.length ≤ B ∧ ∀ x ∈ xs, fd B m x = true := by
  rw [fd, Bool.and_eq_true, decide_eq_true_eq] at h
  cases n with
  | zero => have := h.2; unfold fds at this; cases this
  | succ m => rw [fds_all, List.all_eq_true] at h; exact ⟨m, rfl, h.1, h.2⟩
theorem fd_lst_iff {B n : Nat} {xs : List D} (h : fd B n (.lst xs) = true) : ∃ m, n = m + 1 ∧ xs.length ≤ B ∧ ∀ x ∈ xs, fd B m x = true := by
  rw [fd, Bool.and_eq_true, decide_eq_true_eq] at h
  cases n with
  | zero => have := h.2; unfold fds at this; cases this
  | succ m => rw [fds_all, List.all_eq_true] at h; exact ⟨m, rfl, h.1, h.2⟩
theorem fd_str_iff {B n : Nat} {l : List Nat} (h : fd B n (.str l) = true) : l.length ≤ B ∧ ∀ c ∈ l, c < 128 := by
  rw [fd, Bool.and_eq_true, decide_eq_true_eq, List.all_eq_true] at h
  exact ⟨h.1, fun c hc => of_decide_eq_true (h.2 c hc)⟩
theorem fd_up {B C : Nat} (hB : B ≤ C) : ∀ (n m : Nat) (x : D), n ≤ m → fd B n x = true → fd C m x = true
  | n, m, .non, _, _ => fd_non
  | n, m, .bl _, _, _ => fd_bl
  | n, m, .int _, _, _ => fd_int
  | n, m, .str l, _, h => by
    obtain ⟨h1, h2⟩ := fd_str_iff h
    exact fd_str (by omega) h2
  | 0, m, .lst xs, _, h => by obtain ⟨q, e, _⟩ := fd_lst_iff h; cases e
  | 0, m, .tup xs, _, h => by obtain ⟨q, e, _⟩ := fd_tup_iff h; cases e
  | n + 1, m, .lst xs, hm, h => by
    obtain ⟨q, e, h1, h2⟩ := fd_lst_iff h
    cases e
    cases m with
    | zero => omega
    | succ m => exact fd_lst (by omega) fun x hx => fd_up hB n m x (by omega) (h2 x hx)
  | n + 1, m, .tup xs, hm, h => by
    obtain ⟨q, e, h1, h2⟩ := fd_tup_iff h
    cases e
    cases m with
    | zero => omega
    | succ m => exact fd_tup (by omega) fun x hx => fd_up hB n m x (by omega) (h2 x hx)
  | n, m, .scr _, _, h => by rw [fd] at h; cases h
  | n, m, .dic _ _, _, h => by rw [fd] at h; cases h
  | n, m, .btp _, _, h => by rw [fd] at h; cases h
theorem fd_gdp {B : Nat} : ∀ (n : Nat) (x : D), fd B n x = true → gdp n x = true
  | n, .non, _ => gdp_non
  | n, .bl _, _ => gdp_bl
  | n, .int _, _ => gdp_int
  | n, .str l, h => clean_str fun c hc => by have := (fd_str_iff h).2 c hc; omega
  | 0, .lst xs, h => by obtain ⟨q, e, _⟩ := fd_lst_iff h; cases e
  | 0, .tup xs, h => by obtain ⟨q, e, _⟩ := fd_tup_iff h; cases e
  | n + 1, .lst xs, h => by
    obtain ⟨q, e, h1, h2⟩ := fd_lst_iff h
    cases e
    exact clean_lst fun x hx => fd_gdp n x (h2 x hx)
  | n + 1, .tup xs, h => by
    obtain ⟨q, e, h1, h2⟩ := fd_tup_iff h
    cases e
    exact clean_tup fun x hx => fd_gdp n x (h2 x hx)
  | n, .scr _, h => by rw [fd] at h; cases h
  | n, .dic _ _, h => by rw [fd] at h; cases h
  | n, .btp _, h => by rw [fd] at h; cases h
theorem occ_one (c : Nat) (l : List Nat) : occ [c] l = decide (c ∈ l) := (PySem.StrLaws.found_one (mkS l) c)
theorem in_sign {c : Nat} {l : List Nat} : inD (.str [c]) (.str l) = some (.bl (decide (c ∈ l))) := by
  show some (D.bl (occ [c] l)) = _
  rw [occ_one]
theorem map_bl {α : Type} (f : α → Bool) (xs : List α) : xs.map (fun x => D.bl (f x)) = (xs.map f).map D.bl := by rw [List.map_map]; rfl
theorem all_map_id {α : Type} (f : α → Bool) (xs : List α) : (xs.map f).all id = xs.all f := by rw [List.all_map]; rfl
theorem any_map_id {α : Type} (f : α → Bool) (xs : List α) : (xs.map f).any id = xs.any f := by rw [List.any_map]; rfl
theorem compK_id {ρ : En} {t : Tg} {fc : En → Option Bool} {fe : En → Option D} (g : D → D) {xs : List D} (hl : xs.length ≤ 16777216) (h : ∀ x ∈ xs, ∃ ρ', asg t x ρ = some ρ' ∧ fc ρ' = some true ∧ fe ρ' = some (g x)) : compK ρ t fc fe xs = some (.lst (xs.map g)) := by
  have := compK_all (fun x : D => x) g hl h
  rw [List.map_id'] at this
  exact this
theorem compK_idf {ρ : En} {t : Tg} {fc : En → Option Bool} {fe : En → Option D} (p : D → Bool) (g : D → D) {xs : List D} (hl : xs.length ≤ 16777216) (h : ∀ x ∈ xs, ∃ ρ', asg t x ρ = some ρ' ∧ fc ρ' = some (p x) ∧ (p x = true → fe ρ' = some (g x))) : compK ρ t fc fe xs = some (.lst ((xs.filter p).map g)) := by
  have := compK_map (fun x : D => x) p g hl h
  rw [List.map_id'] at this
  exact this
theorem forK_orD {t : Tg} {gb : En → Option Res} (I : List D → En → Prop) (R : D → Prop) (all : List D) (ρ : En) (h0 : I [] ρ) (turn : ∀ pre x post ρ, all = pre ++ x :: post → I pre ρ → ∃ ρ1 r, asg t x ρ = some ρ1 ∧ gb ρ1 = some r ∧ ((∃ ρ2, r = .nx ρ2 ∧ I (pre ++ [x]) ρ2) ∨ ∃ d, r = .rt d ∧ R d)) :
    (∃ ρ', forK t gb ρ all = some (.nx ρ') ∧ I all ρ') ∨ ∃ d, forK t gb ρ all = some (.rt d) ∧ R d := by
  have := forK_or (fun x : D => x) I R all ρ h0 turn
  rw [List.map_id'] at this
  exact this
theorem forK_invD {t : Tg} {gb : En → Option Res} (I : List D → En → Prop) (all : List D) (ρ : En) (h0 : I [] ρ) (turn : ∀ pre x post ρ, all = pre ++ x :: post → I pre ρ → ∃ ρ1 ρ2, asg t x ρ = some ρ1 ∧ gb ρ1 = some (.nx ρ2) ∧ I (pre ++ [x]) ρ2) :
    ∃ ρ', forK t gb ρ all = some (.nx ρ') ∧ I all ρ' := by
  have := forK_inv (fun x : D => x) I all ρ h0 turn
  rw [List.map_id'] at this
  exact this
theorem up1_lt (c : Nat) (h : c < 128) : PyProof.Rows.up1 c < 128 := by
  have : ∀ c, c < 128 → PyProof.Rows.up1 c < 128 := by decide +kernel
  exact this c h
theorem upper_of {l : List Nat} (h : ∀ c ∈ l, c < 128) (hl : l.length ≤ 5592405) : upperD (.str l) = some (.str (l.map PyProof.Rows.up1)) := by
  show (if l.length ≤ 5592405 then _ else _) = _
  rw [if_pos hl]
  rw [PyProof.Rows.upper_ascii (x := mkS l) h]
  show some (D.str (l.toArray.map PyProof.Rows.up1).toList) = _
  rw [Array.toList_map]
end DL
end
section
namespace DL
open PySem PySem.Spec L2
theorem EVa : type_of% (And.intro @ev_var (And.intro @ev_non (And.intro @ev_bl (And.intro @ev_int (And.intro @ev_str (And.intro @ev_neg (And.intro @ev_glo (And.intro @ev_bin (And.intro @ev_cmp (And.intro @ev_chain (And.intro @ev_not (And.intro @ev_and (And.intro @ev_or (And.intro @evAnd_1 (And.intro @evAnd_2 (And.intro @evOr_1 (And.intro @evOr_2 (And.intro @ev_ite (And.intro @evs_nil (And.intro @evs_cons (And.intro @ev_tup (And.intro @ev_lst (And.intro @ev_cat (And.intro @ev_idx (And.intro @ev_slc (And.intro @evO_none (And.intro @evO_some (And.intro @oK_int (And.intro @ev_call (And.intro @ev_blt (And.intro @m1K_str (And.intro @ev_m1 (And.intro @ev_m0 (And.intro @ev_rev (And.intro @ex_try (And.intro @ex_nvr (And.intro @gdK_m (And.intro @gdK_f (And.intro @ev_mnin (And.intro @ev_mget (And.intro @ev_mat (And.intro @ex_setM (And.intro @gmK_m (And.intro @ex_put (And.intro @pop0K_cons (And.intro @ex_pop0 (And.intro @ex_forP (And.intro @movK_f (And.intro @ex_mov (And.intro @frzMK_m (And.intro @exs_frzM (And.intro @keysK_f (And.intro @evI_keys (And.intro @gp_nil (And.intro @gp_cons (And.intro @ev_dic (And.intro @dicK_1 (And.intro @ev_gdx (And.intro @ev_dix (And.intro @ev_dgt (And.intro @dgt_int (And.intro @ev_sortM (And.intro @ev_stp (And.intro @ex_setM1 (And.intro @ex_par3 (And.intro @ex_setCL (And.intro @setCLK_l (And.intro @ex_set2L (And.intro @ev_negE (And.intro @DL.neg_int (And.intro @ev_tdl (And.intro @dlK_t (And.intro @ev_tld (And.intro @ldK_t (And.intro @ev_tlt (And.intro @ltK_t (And.intro @ev_rowT (And.intro @rwK_t (And.intro @ev_ovrT (And.intro @ovK_t (And.intro @ev_comT (And.intro @cmK_t (And.intro @ev_finT (And.intro @fnK_t (And.intro @ex_mkT (And.intro @trK_ok (And.intro @ex_layT (And.intro @lyK_t (And.intro @ex_bakT (And.intro @bkK_t (And.intro @ex_mk2T (And.intro @ev_srtS (And.intro @ev_fgt (And.intro @ev_addB (And.intro @ev_cntB (And.intro @fgt_btp (And.intro @fgt_tup (And.intro @fgt_non (And.intro @ev_rpl (And.intro @ex_asgK (And.intro @ev_newC (And.intro @ev_newF (And.intro @ex_tolT (And.intro @tlK_t (And.intro @ex_set2W (And.intro @ex_appW (And.intro @ev_isi (And.intro @ev_isi2 (And.intro @ev_comp (And.intro @evC_none (And.intro @evC_some (And.intro @evI_dat (And.intro @evI_rng1 (And.intro @evI_rng2 (And.intro @evI_zip (And.intro @evI_enumL (And.intro @ev_bor (And.intro @ev_itm (And.intro @itK_int (And.intro @zipK_tup (And.intro @zipK_lst (And.intro @enLK_lst (And.intro @enLK_tup (And.intro @seqK_nx (And.intro @seqK_rt (And.intro @exs_nil (And.intro @exs_cons (And.intro @exs_frz (And.intro @ex_ret (And.intro @ex_retN (And.intro @ex_ite (And.intro @asgK_nm (And.intro @asgK_tp (And.intro @asg_nm (And.intro @asg_tp (And.intro @asgs_nil (And.intro @asgs_cons (And.intro @ex_asg (And.intro @set_0 (And.intro @set_s (And.intro @get_0 (And.intro @get_s (And.intro @gv_0 (And.intro @gv_s (And.intro @ex_setL (And.intro @setLK_eq (And.intro @ex_setK (And.intro @ex_setC (And.intro @ex_par (And.intro @ex_for (And.intro @ex_app (And.intro @ex_extC (And.intro @chK_t (And.intro @chK_f (And.intro @notK_bl (And.intro @andK_t (And.intro @andK_f (And.intro @orK_t (And.intro @orK_f (And.intro @ifE_t (And.intro @ifE_f (And.intro @finR_rt (And.intro @finR_nx (And.intro @run_add (And.intro @run_sub (And.intro @run_mul (And.intro @run_mod (And.intro @run_fdiv (And.intro @run_eq (And.intro @run_ne (And.intro @run_lt (And.intro @run_le (And.intro @run_gt (And.intro @run_ge (And.intro @run_is (And.intro @run_isn (And.intro @run_in (And.intro @run_nin (And.intro @run_len (And.intro @run_tuple (And.intro @run_list (And.intro @run_all (And.intro @run_any (And.intro @run_sum (And.intro @run_abs (And.intro @run_min (And.intro @run_max (And.intro @run_sorted (And.intro @run_starts (And.intro @run_ends (And.intro @run_count (And.intro @run_join (And.intro @run_split (And.intro @run_upper (And.intro @rev_tup (And.intro @rev_lst (And.intro @DL.add_int (And.intro @DL.sub_int (And.intro @DL.lt_int (And.intro @DL.le_int (And.intro @DL.gt_int (And.intro @DL.ge_int (And.intro @is_non (And.intro @isn_non (And.intro @is_bl (And.intro @isn_bl (And.intro @isNon_non (And.intro @isNon_tup (And.intro @isNon_int (And.intro @isNon_str (And.intro @isNon_bl (And.intro @isNon_lst (And.intro @len_tup (And.intro @len_lst (And.intro @len_scr (And.intro @tup_lst (And.intro @tup_tup (And.intro @list_lst (And.intro @list_tup (And.intro @min_int (And.intro @max_int (And.intro @abs_int (And.intro @all_bls (And.intro @any_bls (And.intro @sum_ints (And.intro @sum_tupI (And.intro @idx_tup (And.intro @idx_lst (And.intro @idx_scr (And.intro @slc_tup (And.intro @slc_lst (And.intro @tru_non (And.intro @tru_bl (And.intro @tru_int (And.intro @tru_lst (And.intro @tru_tup (And.intro @its_lst (And.intro @its_tup (And.intro @its_str (And.intro @starts_str (And.intro @ends_str (And.intro @count_str (And.intro @scal_bl (And.intro @scal_int (And.intro @slots_nm (And.intro @slots_tp (And.intro @slots_nil (And.intro @slots_cons (And.intro @wipeR_nil (And.intro @wipeR_cons (And.intro @brw_nil (And.intro @brw_cons (And.intro @brwK_l (And.intro @brwK_d (And.intro @gfrz_eq (And.intro @frzK_l (And.intro @obs (And.intro @oms (And.intro @lca (And.intro @lna (And.intro @decide_true (And.intro @decide_false (And.intro @dtt (And.intro @dtf (And.intro @dft (And.intro @dff (And.intro @bnt (And.intro @bnf (And.intro @DL.eq_int (And.intro @DL.ne_int (And.intro @tupK_0 (And.intro @tupK_1 (And.intro @tupK_2 (And.intro @tupK_3 (And.intro @tupK_4 (And.intro @tupK_5 (And.intro @tupK_6 (And.intro @lstK_0 (And.intro @lstK_1 (And.intro @lstK_2 (And.intro @lstK_3 (And.intro @lstK_4 (And.intro @lstK_5 (And.intro @lstK_6 (And.intro @lstK_7 (And.intro @lstK_8 (And.intro @lstK_9 (And.intro @lstK_10 (And.intro @lstK_11 (And.intro @lstK_12 (And.intro @lstK_13 (And.intro @lstK_14 (And.intro @lstK_15 (And.intro @lstK_16 (And.intro @small_0 (And.intro @small_1 (And.intro @small_2 (And.intro @small_3 (And.intro @small_4 (And.intro @small_5 (And.intro @small_6 (And.intro @small_7 (And.intro @small_8 (And.intro @small_9 (And.intro @small_10 (And.intro @small_11 (And.intro @small_12 (And.intro @small_13 (And.intro @small_14 (And.intro @small_15 (And.intro @small_16 (And.intro @isi_tuple_non (And.intro @isi_tuple_bl (And.intro @isi_tuple_int (And.intro @isi_tuple_str (And.intro @isi_tuple_lst (And.intro @isi_tuple_tup (And.intro @isi_str_non (And.intro @isi_str_bl (And.intro @isi_str_int (And.intro @isi_str_str (And.intro @isi_str_lst (And.intro @isi_str_tup (And.intro @isi_int_non (And.intro @isi_int_bl (And.intro @isi_int_int (And.intro @isi_int_str (And.intro @isi_int_lst (And.intro @isi_int_tup (And.intro @isi_bool_non (And.intro @isi_bool_bl (And.intro @isi_bool_int (And.intro @isi_bool_str (And.intro @isi_bool_lst (And.intro @isi_bool_tup (And.intro @isi_list_non (And.intro @isi_list_bl (And.intro @isi_list_int (And.intro @isi_list_str (And.intro @isi_list_lst (And.intro @isi_list_tup (And.intro @isi2_int_str_non (And.intro @isi2_int_str_bl (And.intro @isi2_int_str_int (And.intro @isi2_int_str_str (And.intro @isi2_int_str_lst (@isi2_int_str_tup))))))))))))))))))))))))))))))))))))))))))))))))))))))))))))))))))))))))))))))))))))))))))))))))))))))))))))))))))))))))))))))))))))))))))))))))))))))))))))))))))))))))))))))))))))))))))))))))))))))))))))))))))))))))))))))))))))))))))))))))))))))))))))))))))))))))))))))))))))))))))))))))))))))))))))))))))))))))))))))))))))))))))))))))))))))))))) :=
  And.intro @ev_var (And.intro @ev_non (And.intro @ev_bl (And.intro @ev_int (And.intro @ev_str (And.intro @ev_neg (And.intro @ev_glo (And.intro @ev_bin (And.intro @ev_cmp (And.intro @ev_chain (And.intro @ev_not (And.intro @ev_and (And.intro @ev_or (And.intro @evAnd_1 (And.intro @evAnd_2 (And.intro @evOr_1 (And.intro @evOr_2 (And.intro @ev_ite (And.intro @evs_nil (And.intro @evs_cons (And.intro @ev_tup (And.intro @ev_lst (And.intro @ev_cat (And.intro @ev_idx (And.intro @ev_slc (And.intro @evO_none (And.intro @evO_some (And.intro @oK_int (And.intro @ev_call (And.intro @ev_blt (And.intro @m1K_str (And.intro @ev_m1 (And.intro @ev_m0 (And.intro @ev_rev (And.intro @ex_try (And.intro @ex_nvr (And.intro @gdK_m (And.intro @gdK_f (And.intro @ev_mnin (And.intro @ev_mget (And.intro @ev_mat (And.intro @ex_setM (And.intro @gmK_m (And.intro @ex_put (And.intro @pop0K_cons (And.intro @ex_pop0 (And.intro @ex_forP (And.intro @movK_f (And.intro @ex_mov (And.intro @frzMK_m (And.intro @exs_frzM (And.intro @keysK_f (And.intro @evI_keys (And.intro @gp_nil (And.intro @gp_cons (And.intro @ev_dic (And.intro @dicK_1 (And.intro @ev_gdx (And.intro @ev_dix (And.intro @ev_dgt (And.intro @dgt_int (And.intro @ev_sortM (And.intro @ev_stp (And.intro @ex_setM1 (And.intro @ex_par3 (And.intro @ex_setCL (And.intro @setCLK_l (And.intro @ex_set2L (And.intro @ev_negE (And.intro @DL.neg_int (And.intro @ev_tdl (And.intro @dlK_t (And.intro @ev_tld (And.intro @ldK_t (And.intro @ev_tlt (And.intro @ltK_t (And.intro @ev_rowT (And.intro @rwK_t (And.intro @ev_ovrT (And.intro @ovK_t (And.intro @ev_comT (And.intro @cmK_t (And.intro @ev_finT (And.intro @fnK_t (And.intro @ex_mkT (And.intro @trK_ok (And.intro @ex_layT (And.intro @lyK_t (And.intro @ex_bakT (And.intro @bkK_t (And.intro @ex_mk2T (And.intro @ev_srtS (And.intro @ev_fgt (And.intro @ev_addB (And.intro @ev_cntB (And.intro @fgt_btp (And.intro @fgt_tup (And.intro @fgt_non (And.intro @ev_rpl (And.intro @ex_asgK (And.intro @ev_newC (And.intro @ev_newF (And.intro @ex_tolT (And.intro @tlK_t (And.intro @ex_set2W (And.intro @ex_appW (And.intro @ev_isi (And.intro @ev_isi2 (And.intro @ev_comp (And.intro @evC_none (And.intro @evC_some (And.intro @evI_dat (And.intro @evI_rng1 (And.intro @evI_rng2 (And.intro @evI_zip (And.intro @evI_enumL (And.intro @ev_bor (And.intro @ev_itm (And.intro @itK_int (And.intro @zipK_tup (And.intro @zipK_lst (And.intro @enLK_lst (And.intro @enLK_tup (And.intro @seqK_nx (And.intro @seqK_rt (And.intro @exs_nil (And.intro @exs_cons (And.intro @exs_frz (And.intro @ex_ret (And.intro @ex_retN (And.intro @ex_ite (And.intro @asgK_nm (And.intro @asgK_tp (And.intro @asg_nm (And.intro @asg_tp (And.intro @asgs_nil (And.intro @asgs_cons (And.intro @ex_asg (And.intro @set_0 (And.intro @set_s (And.intro @get_0 (And.intro @get_s (And.intro @gv_0 (And.intro @gv_s (And.intro @ex_setL (And.intro @setLK_eq (And.intro @ex_setK (And.intro @ex_setC (And.intro @ex_par (And.intro @ex_for (And.intro @ex_app (And.intro @ex_extC (And.intro @chK_t (And.intro @chK_f (And.intro @notK_bl (And.intro @andK_t (And.intro @andK_f (And.intro @orK_t (And.intro @orK_f (And.intro @ifE_t (And.intro @ifE_f (And.intro @finR_rt (And.intro @finR_nx (And.intro @run_add (And.intro @run_sub (And.intro @run_mul (And.intro @run_mod (And.intro @run_fdiv (And.intro @run_eq (And.intro @run_ne (And.intro @run_lt (And.intro @run_le (And.intro @run_gt (And.intro @run_ge (And.intro @run_is (And.intro @run_isn (And.intro @run_in (And.intro @run_nin (And.intro @run_len (And.intro @run_tuple (And.intro @run_list (And.intro @run_all (And.intro @run_any (And.intro @run_sum (And.intro @run_abs (And.intro @run_min (And.intro @run_max (And.intro @run_sorted (And.intro @run_starts (And.intro @run_ends (And.intro @run_count (And.intro @run_join (And.intro @run_split (And.intro @run_upper (And.intro @rev_tup (And.intro @rev_lst (And.intro @DL.add_int (And.intro @DL.sub_int (And.intro @DL.lt_int (And.intro @DL.le_int (And.intro @DL.gt_int (And.intro @DL.ge_int (And.intro @is_non (And.intro @isn_non (And.intro @is_bl (And.intro @isn_bl (And.intro @isNon_non (And.intro @isNon_tup (And.intro @isNon_int (And.intro @isNon_str (And.intro @isNon_bl (And.intro @isNon_lst (And.intro @len_tup (And.intro @len_lst (And.intro @len_scr (And.intro @tup_lst (And.intro @tup_tup (And.intro @list_lst (And.intro @list_tup (And.intro @min_int (And.intro @max_int (And.intro @abs_int (And.intro @all_bls (And.intro @any_bls (And.intro @sum_ints (And.intro @sum_tupI (And.intro @idx_tup (And.intro @idx_lst (And.intro @idx_scr (And.intro @slc_tup (And.intro @slc_lst (And.intro @tru_non (And.intro @tru_bl (And.intro @tru_int (And.intro @tru_lst (And.intro @tru_tup (And.intro @its_lst (And.intro @its_tup (And.intro @its_str (And.intro @starts_str (And.intro @ends_str (And.intro @count_str (And.intro @scal_bl (And.intro @scal_int (And.intro @slots_nm (And.intro @slots_tp (And.intro @slots_nil (And.intro @slots_cons (And.intro @wipeR_nil (And.intro @wipeR_cons (And.intro @brw_nil (And.intro @brw_cons (And.intro @brwK_l (And.intro @brwK_d (And.intro @gfrz_eq (And.intro @frzK_l (And.intro @obs (And.intro @oms (And.intro @lca (And.intro @lna (And.intro @decide_true (And.intro @decide_false (And.intro @dtt (And.intro @dtf (And.intro @dft (And.intro @dff (And.intro @bnt (And.intro @bnf (And.intro @DL.eq_int (And.intro @DL.ne_int (And.intro @tupK_0 (And.intro @tupK_1 (And.intro @tupK_2 (And.intro @tupK_3 (And.intro @tupK_4 (And.intro @tupK_5 (And.intro @tupK_6 (And.intro @lstK_0 (And.intro @lstK_1 (And.intro @lstK_2 (And.intro @lstK_3 (And.intro @lstK_4 (And.intro @lstK_5 (And.intro @lstK_6 (And.intro @lstK_7 (And.intro @lstK_8 (And.intro @lstK_9 (And.intro @lstK_10 (And.intro @lstK_11 (And.intro @lstK_12 (And.intro @lstK_13 (And.intro @lstK_14 (And.intro @lstK_15 (And.intro @lstK_16 (And.intro @small_0 (And.intro @small_1 (And.intro @small_2 (And.intro @small_3 (And.intro @small_4 (And.intro @small_5 (And.intro @small_6 (And.intro @small_7 (And.intro @small_8 (And.intro @small_9 (And.intro @small_10 (And.intro @small_11 (And.intro @small_12 (And.intro @small_13 (And.intro @small_14 (And.intro @small_15 (And.intro @small_16 (And.intro @isi_tuple_non (And.intro @isi_tuple_bl (And.intro @isi_tuple_int (And.intro @isi_tuple_str (And.intro @isi_tuple_lst (And.intro @isi_tuple_tup (And.intro @isi_str_non (And.intro @isi_str_bl (And.intro @isi_str_int (And.intro @isi_str_str (And.intro @isi_str_lst (And.intro @isi_str_tup (And.intro @isi_int_non (And.intro @isi_int_bl (And.intro @isi_int_int (And.intro @isi_int_str (And.intro @isi_int_lst (And.intro @isi_int_tup (And.intro @isi_bool_non (And.intro @isi_bool_bl (And.intro @isi_bool_int (And.intro @isi_bool_str (And.intro @isi_bool_lst (And.intro @isi_bool_tup (And.intro @isi_list_non (And.intro @isi_list_bl (And.intro @isi_list_int (And.intro @isi_list_str (And.intro @isi_list_lst (And.intro @isi_list_tup (And.intro @isi2_int_str_non (And.intro @isi2_int_str_bl (And.intro @isi2_int_str_int (And.intro @isi2_int_str_str (And.intro @isi2_int_str_lst (@isi2_int_str_tup))))))))))))))))))))))))))))))))))))))))))))))))))))))))))))))))))))))))))))))))))))))))))))))))))))))))))))))))))))))))))))))))))))))))))))))))))))))))))))))))))))))))))))))))))))))))))))))))))))))))))))))))))))))))))))))))))))))))))))))))))))))))))))))))))))))))))))))))))))))))))))))))))))))))))))))))))))))))))))))))))))))))))))))))))))))))))
end DL
end
section
/-! a method's own slots: the table, the arguments -/
namespace DL
open PySem PySem.Spec L2
open PyProof.Rows hiding St
def enT (n : Nat) (d r : D) (os as : List D) : En := .t d r os :: (as.map .d ++ List.replicate (n - 1 - as.length) .no)
theorem vw_tab {K : Kf} {F H : Hp} {N : List Str} {C a dx l : Addr} {d r : D} {os as : List D} {us : List V} (hN : 1 ≤ N.length) (sf : Same F H) (q : TabH K F H C a dx l d r os) (fa : F a = none) (fdx : F dx = none) (fl : F l = none) (qs : Das K F us as) : Vw K (fun _ => True) F H (L2.start N (.ref a :: us)) (enT N.length d r os as) := by
  have q0 := q
  obtain ⟨tc, v1, v2, vs, q1, q2, q3, q4⟩ := q
  refine ⟨sf, ?_, fun i => if i = 0 then [a, dx, l] else [], fun i s o e1 e2 => ?_, fun i b _ hb => ?_, fun i j b _ _ hb hc => ?_⟩
  · unfold L2.start enT
    rw [List.length_append, List.length_map, List.length_replicate, List.length_cons, List.length_cons, List.length_append, List.length_map, List.length_replicate, qs.length]
    omega
  · cases i with
    | zero =>
      cases e1
      cases e2
      exact .inr ⟨_, rfl, a, C, dx, l, rfl, q0, by simp⟩
    | succ i =>
      simp only [Nat.succ_ne_zero, if_false]
      unfold L2.start at e2
      unfold enT at e1
      rw [List.map_cons, List.cons_append, List.getElem?_cons_succ] at e2
      rw [List.getElem?_cons_succ] at e1
      by_cases hi : i < as.length
      · rw [List.getElem?_append_left (by rw [List.length_map]; exact hi), List.getElem?_map] at e1
        rw [List.getElem?_append_left (by rw [List.length_map, qs.length]; exact hi), List.getElem?_map] at e2
        obtain ⟨d, ed, rfl⟩ := Option.map_eq_some_iff.mp e1
        obtain ⟨v, ev, rfl⟩ := Option.map_eq_some_iff.mp e2
        obtain ⟨v', ev', qv⟩ := qs.get ed
        rw [ev] at ev'
        cases ev'
        exact .inr ⟨v, rfl, qv, rfl⟩
      · rw [List.getElem?_append_right (by rw [List.length_map]; omega), List.getElem?_replicate] at e1
        split at e1
        · cases e1
          exact .inl ⟨rfl, rfl⟩
        · cases e1
  · by_cases hi : i = 0
    · simp only [hi, if_true, List.mem_cons, List.not_mem_nil, or_false] at hb
      rcases hb with rfl | rfl | rfl
      · exact ⟨fa, by rw [q1]; exact fun z => (nomatch z), trivial⟩
      · exact ⟨fdx, by rw [q2]; exact fun z => (nomatch z), trivial⟩
      · exact ⟨fl, by rw [q3]; exact fun z => (nomatch z), trivial⟩
    · simp [hi] at hb
  · by_cases hi : i = 0
    · by_cases hj : j = 0
      · rw [hi, hj]
      · simp [hj] at hc
    · simp [hi] at hb
theorem Das.nil_iff {K : Kf} {F : Hp} {vs : List V} (h : Das K F vs []) : vs = [] := by cases h; rfl
theorem putF_init (v1 v2 : V) (l : Addr) : putF "rests" (.ref l) (putF "laid" v2 (putF "deal" v1 [])) = tabF v1 v2 l := by
  show (if ("deal" : Str) = "rests" then _ else (("deal" : Str), v1) :: (if ("laid" : Str) = "rests" then _ else (("laid" : Str), v2) :: [(("rests" : Str), V.ref l)])) = _
  rw [if_neg (by decide +kernel), if_neg (by decide +kernel)]
  rfl
theorem putF_init2 (v1 v2 : V) : putF "laid" v2 (putF "deal" v1 []) = [(("deal" : Str), v1), (("laid" : Str), v2)] := by
  show (if ("deal" : Str) = "laid" then _ else (("deal" : Str), v1) :: [(("laid" : Str), v2)]) = _
  rw [if_neg (by decide +kernel)]
theorem putF_laid (v1 v2 v3 : V) (l : Addr) : putF "laid" v3 (tabF v1 v2 l) = tabF v1 v3 l := by
  show (if ("deal" : Str) = "laid" then _ else (("deal" : Str), v1) :: (if ("laid" : Str) = "laid" then (("laid" : Str), v3) :: [(("rests" : Str), V.ref l)] else _)) = _
  rw [if_neg (by decide +kernel), if_pos rfl]
  rfl
/-- what a class of refusals must say -/
structure ErrX (K : PySem.W.Frag) (mg : Str → Option Value) (x : Str) (C : Addr) : Prop where
  gC : mg x = some (.ref C)
  ns : PySem.W.nsIn K mainGlobals x = some (some (.ref C))
  ex : PySem.W.excIn K C [.type "ValueError", .type "Exception", .type "BaseException", .type "object"] "ValueError.__new__" = true
  kp : PySem.W.keepIn K (.ref C) = true
  sb : PySem.W.subIn K (.ref C) (.type "BaseException") = some true
  ty : PySem.W.typeIn K (.ref C) = some (.type "type")
theorem pmk_err {X : Cx} {x m : Str} {j : Nat} {p p2 pos : Pos} {C : Addr} (e : ErrX X.K X.mg x C) (hg : Gl X x) (hdb : (x == ("__debug__" : Str)) = false := by decide) : L2N.PMk X (.Call (.Name x p) [.Constant (.str m) j p2] [] pos) (fun _ H Q => Q (.ref C) none H) :=
  L2N.pmk_own PySem.F.excBase_ValueError e.ex e.gC e.kp (raises_own e.sb e.ty) hg hdb
section
variable {P : Program} {w : World} {K : PySem.W.Frag} {mg : Str → Option Value} {base : Heap}
/-- a def that may raise, its context None -/
theorem okN {x qual : Str} {st : Stmt} {f : Addr} {fd : FuncData} {N ps : List Str} {k : Nat} {sp : Sp} (T : Fun K x qual st f fd) (sc : FnScope N ps (defScope st)) (ln : ∀ vs H Q E, sp vs H Q E → vs.length = ps.length)
    (b : ∀ (cv : Value) (Ar : Around) (out : List Env) (s : Shared) (H : Hp) (vs : List V) (Q : VK) (E : XK), Room k (Ar.deeper (envOfC qual (defScope st) s.heap.objs.size f cv)) → sp vs H Q E →
      ∃ t, PSs (cxOf (L2N.CX P w) P w K mg base N qual (defScope st) f cv Ar out s H E) (defBody st) t ∧ t { nx := fun _ H' => Q .non H', rt := Q } (L2.start N vs) H) : FnOk P w K mg base (L2N.CX P w) (k + 1) f fd ps sp := by
  obtain ⟨o1, o2, o3, o4, o5, o6, cv, o8, o9, e, h1, h2⟩ := T.ex
  subst e
  exact fn_of h1 h2 sc ln fun Ar out s H vs Q E r q => b cv Ar out s H vs Q E r q
/-- the context of a def's body -/
theorem cok_of {S : PIn} {G : Nat → List D → Option D} {k : Nat} {CX : CXT} {N ps : List Str} {qual : Str} {st : Stmt} {f : Addr} {cv : Value} {Ar : Around} {out : List Env} {s : Shared} {H : Hp} {E : XK} (M : ModOk S ⟨K, P, w⟩ mg) (sc : FnScope N ps (defScope st))
    (hr : Room k (Ar.deeper (envOfC qual (defScope st) s.heap.objs.size f cv))) (fns : FnsOk P w K mg base S k G) (tab : TabsOk P w K mg base S k G) : Cok S G k (cxOf CX P w K mg base N qual (defScope st) f cv Ar out s H E) { N := N, names := (defScope st).names, own := none } :=
  ⟨sc.kind, rfl, rfl, sc.nd, rfl, fun _ _ => rfl, hr, M.bn, M.gds, M.gdd, fns, tab⟩
theorem fn_none' {CX : CXT} {f : Addr} {fd : FuncData} {ps : List Str} {k : Nat} {sp : Sp} (h : ∀ vs H Q E, ¬ sp vs H Q E) : FnOk P w K mg base CX k f fd ps sp :=
  ⟨fun vs H Q E z => absurd z (h _ _ _ _), fun Ar out s H args us vs Q E _ _ _ _ z => absurd z (h _ _ _ _)⟩
end
theorem pd_negc {X : Cx} {n : Int} {j : Nat} {p pos : Pos} : PE X (.UnaryOp .USub (.Constant (.int n) j p) pos) (tD X.kf (gc (.int (-n)))) := PEi (pe_un un_neg pe_int) fun σ H Q w => by
  obtain ⟨P, F, ρ, b, vw, e, k⟩ := w
  cases e
  exact ⟨n, rfl, k _ F H (Gr.refl vw.sub) (.int _)⟩
/-- a method, as the head tells it -/
structure MAt (K : PySem.W.Frag) (C : Addr) (m qual : Str) (st : Stmt) (f : Addr) (oc kV dc pm cd ct : Value) (od an : Option Addr) (sl : Array (Option Value)) : Prop where
  a : PySem.W.findIn K (.ref C) m = some (some (.ref f))
  i : PySem.W.isFn K (.ref f) = true
  l : K.lookup f = some ⟨oc, od, .func (PySem.W.fnOf m qual (defArgs st) (defBody st) (defScope st) .none kV dc pm an cd ct), sl⟩
  c : PySem.W.codeIn K cd qual = true
  k : PySem.W.keepIn K (.ref f) = true
theorem MAt.all {K : PySem.W.Frag} {C : Addr} {m qual : Str} {st : Stmt} {f : Addr} {oc kV dc pm cd ct : Value} {od an : Option Addr} {sl : Array (Option Value)} (A : MAt K C m qual st f oc kV dc pm cd ct od an sl) {ps : List Str}
    (hb : ∀ (kV doc pm : Value) (an : Option Addr) (cdv ct : Value) (us : List Value), us.length = ps.length → bindArgs (PySem.W.fnOf m qual (defArgs st) (defBody st) (defScope st) .none kV doc pm an cdv ct) ⟨us, []⟩ = pure (ps.zip us)) :
    ∃ f fd, Meth K C m f ∧ Binds K fd ps [] ∧ Fun K m qual st f fd :=
  have F := fun_mk (st := st) A.l A.c A.k
  ⟨f, _, ⟨A.a, A.i, A.k⟩, F.binds hb, F⟩
/-- a class of refusals, as the head tells it -/
structure EAt (K : PySem.W.Frag) (x : Str) (C : Addr) : Prop where
  ns : PySem.W.nsIn K mainGlobals x = some (some (.ref C))
  ex : PySem.W.excIn K C [.type "ValueError", .type "Exception", .type "BaseException", .type "object"] "ValueError.__new__" = true
  kp : PySem.W.keepIn K (.ref C) = true
  sb : PySem.W.subIn K (.ref C) (.type "BaseException") = some true
  ty : PySem.W.typeIn K (.ref C) = some (.type "type")
theorem EAt.err {K : PySem.W.Frag} {h : Heap} {mg : Str → Option Value} {x : Str} {C : Addr} (E : EAt K x C) (X : K.In h) (G : h.Ns mainGlobals mg) : ErrX K mg x C := ⟨PySem.W.mg_of X G E.ns, E.ns, E.ex, E.kp, E.sb, E.ty⟩
/-- the class Table, as the head tells it -/
structure CAt (K : PySem.W.Frag) (C : Addr) : Prop where
  ns : PySem.W.nsIn K mainGlobals "Table" = some (some (.ref C))
  pg : PySem.W.plainGet K C Str.empty = true
  hd : PySem.W.hasDictIn K C = true
  po : PySem.W.plainOver K C = true
  sa : PySem.W.findIn K (.ref C) "__setattr__" = some (some (.builtin "object.__setattr__"))
  mks : PySem.W.makesIn K C = true
  kc : PySem.W.keepIn K (.ref C) = true
  nd : PySem.W.findIn K (.ref C) "deal" = some none
  nl : PySem.W.findIn K (.ref C) "laid" = some none
  nr : PySem.W.findIn K (.ref C) "rests" = some none
end DL
end
section
/-! refusals that are caught -/
namespace DL
open PySem PySem.Spec L2
open PyProof.Rows hiding St
def EndX (K : Kf) (F H : Hp) (Q : VK) (E : XK) : D ⊕ Nat → Prop
  | .inl d => ∀ v F' H', Gr F H F' H' → Da K F' v d → Q v H'
  | .inr c => ∀ Ce F' H', ExC K c Ce → Gr F H F' H' → E (.ref Ce) none H'
/-- a def that tells a datum, or refuses -/
def spX (K : Kf) (n : Nat) (g : List D → Option (D ⊕ Nat)) : Sp := fun vs H Q E => vs.length = n ∧ ∃ F ds r, Same F H ∧ Das K F vs ds ∧ g ds = some r ∧ EndX K F H Q E r

/-! ### a def that is called within the suite of an except clause, about the exception at p -/
structure FnP (P : Program) (w : World) (K : PySem.W.Frag) (mg : Str → Option Value) (base : Heap) (k : Nat) (f : Addr) (fd : FuncData) (ps : List Str) (p : Addr × Obj) (sp : List V → Hp → VK → Prop) : Prop where
  len : ∀ vs H Q, sp vs H Q → vs.length = ps.length
  go : ∀ (Ar : Around) (out : List Env) (s : Shared) (H : Hp) (us : List Value) (vs : List V) (Q : VK), L2H.RoomH k Ar → L2H.Hot1 Ar p → L2H.PinOk out H s p → Env0 P w K mg base Ar out s H → BindsTo s fd ⟨us, []⟩ (ps.zip us) → Vals vs us → sp vs H Q →
    codeAny (model P w) Ar (.call (.ref f) ⟨us, []⟩) (CR CX0 out P w H s Q E0) s
theorem fnP_of {P : Program} {w : World} {K : PySem.W.Frag} {mg : Str → Option Value} {base : Heap} {k : Nat} {x qual : Str} {st : Stmt} {f : Addr} {fd : FuncData} {N ps : List Str} {p : Addr × Obj} {sp : List V → Hp → VK → Prop} (T : Fun K x qual st f fd) (sc : FnScope N ps (defScope st))
    (len : ∀ vs H Q, sp vs H Q → vs.length = ps.length)
    (b : ∀ (cv : Value) (Ar : Around) (out : List Env) (s : Shared) (H : Hp) (vs : List V) (Q : VK), L2H.Hot1 Ar p → L2H.RoomH k (Ar.deeper (envOfC qual (defScope st) s.heap.objs.size f cv)) → sp vs H Q →
      ∃ t, PSs (L2H.cxH CX0 P w K mg base N qual (defScope st) f cv Ar out s H E0 p) (defBody st) t ∧ t { nx := fun _ H' => Q .non H', rt := Q } (L2.start N vs) H) : FnP P w K mg base (k + 1) f fd ps p sp := by
  obtain ⟨o1, o2, o3, o4, o5, o6, cv, o8, o9, e, lk, hcd⟩ := T.ex
  subst e
  refine ⟨len, fun Ar out s H us vs Q hr hot pin en bd r q => ?_⟩
  have kin : K.In s.heap := en.mod.kin.keeps fun c o z => (en.bs c o z).1
  have nol : s.heap.NoLimit := en.mod.nolimit.keeps fun c o z => (en.bs c o z).1
  refine codeAny_call_function hr.depth (kin _ _ lk) rfl sc.co sc.gen rfl (PySem.W.codeRec_of kin hcd) (bd _ _ _ _ ?_)
  refine wpAny_newFunctionEnv_cells sc.kind (fun y hy => ?_) fun env he s1 ic => ?_
  · obtain ⟨nm, vl⟩ := y
    rcases sc.par nm (List.of_mem_zip hy).1 with z | z
    · exact .inl z
    · exact .inr ⟨z, PySem.W.cellsFrom_some _ _ _ (.inl z)⟩
  · subst he
    refine ⟨nol.keeps ic.toInCall.keep, codeAny_func ?_⟩
    obtain ⟨t, ht, hq⟩ := b cv Ar out s H vs Q hot (hr.deeper _) q
    have iv : Inv (L2H.cxH CX0 P w K mg base N qual (defScope st) f cv Ar out s H E0 p) [] (L2.start N vs) H s1 := L2H.inv_startH sc pin en (len _ _ _ q) r ic
    refine wpAny_mono (ht.run [] s1 (L2.start N vs) H _ iv hq) (fun fl s' z => ?_) fun e s' z => z
    cases fl with
    | ret u =>
      obtain ⟨v, σ', H', J, rv, q'⟩ := z
      exact ⟨v, H', J.os, J.bare, J.base, J.hok, rv, q'⟩
    | next =>
      obtain ⟨σ', H', J, q'⟩ := z
      exact ⟨V.non, H', J.os, J.bare, J.base, J.hok, rfl, q'⟩
    | brk =>
      obtain ⟨_, _, _, q'⟩ := z
      exact q'.elim
    | cont =>
      obtain ⟨_, _, _, q'⟩ := z
      exact q'.elim
def tCallP (sp : List V → Hp → VK → Prop) (t : TA) : TE := fun σ H Q => t σ H fun vs H1 => sp vs H1 Q
theorem pe_callP {X : Cx} {k : Nat} {f : Addr} {fd : FuncData} {ps : List Str} {p : Addr × Obj} {sp : List V → Hp → VK → Prop} {x : Str} {px pos : Pos} {e : Expr} {es : List Expr} {t : TA} (F : FnP X.prog X.w X.K X.mg X.base k f fd ps p sp) (hr : L2H.RoomH k X.A) (hot : L2H.Hot1 X.A p) (hp : p ∈ X.pn) (hg : Gl X x) (hm : X.mg x = some (.ref f)) (hk : PySem.W.keepIn X.K (.ref f) = true) (hb : Binds X.K fd ps [])
    (ha : PA X (e :: es) t) (hdb : (x == ("__debug__" : Str)) = false) (he : starEach (e :: es) X.env = (false, eval e X.env) :: starEach es X.env) (hpl : (backTo pos (starEach es X.env)).any (·.1) = false) : PE X (.Call (.Name x px) (e :: es) [] pos) (tCallP sp t) := by
  refine ⟨fun pins s σ H Q I h => wpAny_Call_Name_kw (ld_glob I hg hm ?_ hdb)⟩
  refine PySem.W.callWith_K (h₀ := X.base) I.ok.mod.kin hk (thn (ha.run pos pins s σ H _ I h) fun us s1 z => ?_) he hpl
  obtain ⟨vs, H1, I1, r, q⟩ := z
  refine ⟨I1.kIn, ?_⟩
  have hl : us.length = ps.length := by rw [← r.length]; exact F.len _ _ _ q
  have bd := hb s1 us I1.kIn (by rw [List.append_nil]; exact hl)
  rw [List.append_nil] at bd
  have P1 := I1.pin p (List.mem_append_left _ hp)
  have pin : L2H.PinOk X.stack H1 s1 p := ⟨P1.1, P1.2.1, fun z => (List.mem_cons.mp (I1.stkSub p.1 z)).elim P1.2.2.1 P1.2.2.2.1, P1.2.2.2.2⟩
  refine wpAny_call (codeAny_mono (F.go X.A X.stack s1 H1 us vs Q hr hot pin I1.env0 bd r q) fun res s' hq => ?_)
  match res, hq with
  | .error _, hq => exact hq.elim
  | .ok (.ret u), hq => exact I1.after hq
/-- isinstance(e, c), e the exception at a that the context bears -/
theorem call_isP {X : Cx} {a Dc : Addr} {oe : Obj} (C : ExcC X.K Dc) (hz : Zc (.ref Dc) none oe) (hf : ∃ vs, oe.data = .fields vs) (hp : (a, oe) ∈ X.pn) : CallR X (.builtin "isinstance") (rIsE X.K Dc a) := by
  intro pins s σ H xs us Q I r h
  obtain ⟨c, cv, b, rfl, hcv, e, q⟩ := h
  obtain ⟨u1, u2, rfl, rx, rt⟩ : ∃ u1 u2, us = [u1, u2] ∧ RelV (V.ref a) u1 ∧ RelV c u2 := by
    cases r with
    | cons rx rr =>
      cases rr with
      | cons rt rr =>
        cases rr
        exact ⟨_, _, rfl, rx, rt⟩
  cases rx
  obtain rfl := hcv _ rt
  have hget := (I.pin (a, oe) (List.mem_append_left _ hp)).1
  obtain ⟨vs, hv⟩ := hf
  have J : PySem.W.InstAt s.heap a oe Dc none := by
    obtain ⟨oc, od, oda, osl⟩ := oe
    obtain ⟨h1, h2⟩ := hz
    dsimp only at h1 h2 hv
    subst h1
    subst h2
    subst hv
    exact ⟨hget, rfl, rfl, trivial⟩
  refine PySem.W.kia_one (PySem.W.handS_kitx_exc C.hg C.hk C.hs C.hd C.ha C.hn C.ht C.hm) I.kIn J e (fun z => nomatch z) fun tk => ?_
  exact ⟨.bl b, H, I.kept (t' := tk) fun _ _ z => z, rfl, q⟩
/-! ### l.count(x) of data -/
def rCntD (K : PySem.W.Frag) : V → List V → Hp → VK → Prop := fun x xs H Q => ∃ (a : Addr) (y : V) (d : PyData) (ds : List PyData), x = V.ref a ∧ xs = [y] ∧ Dp K H (V.ref a) (.list ds) ∧ Dp K H y d ∧ SeqAt.shaped (.list ds) = true ∧ SeqAt.shaped d = true ∧ Q (.int ((ds.countP fun z => PyData.eqv z d) : Nat)) H
theorem mt_lcountD {X : Cx} (hu : X.A.units + 65 < cLine) : MtR X "list.count" (rCntD X.K) := by
  intro pins s σ H x xs v us Q I rx rxs h
  obtain ⟨a, y, d, ds, rfl, rfl, hl, hy, sl, sd, q⟩ := h
  cases rx
  obtain ⟨uy, rfl, ry⟩ := rxs.one
  obtain ⟨bs, r1⟩ := Dp.reads I d y uy hy ry
  have lay : PyData.canLayAll0 ds = true := SeqAt.canLay_of_shaped sl
  have room : X.A.units + 1 + min (PyData.depthAll ds) d.depth < cLine := room_in_shaped sd hu
  cases hl with
  | lst hs ha =>
    obtain ⟨its, rv, ⟨⟨cls, dd, data, sls⟩, n, ho, hc, _, hdt⟩, _⟩ := I.list hs
    dsimp only at hc hdt
    subst hc
    subst hdt
    obtain ⟨as, h4⟩ := Dp.readsAll I ds _ its ha rv
    have hmap : its.map (SeqAt.readOf s.heap) = ds := SeqAt.readsAll_map ds its as lay h4
    refine call_meets PySem.F.slot_list_count ⟨_, ho, rfl⟩ PySem.F.entry_list_count (PySem.F.args_list_count_2 _ _) (SeqAt.list_countAt a its.toArray n dd sls uy (fun u => PyData.eqv (SeqAt.readOf s.heap u) d))
      ⟨ho, SeqAt.items_eqAt (vs := its.toArray) (show ReadsAll s.heap its.toArray.toList ds as from h4) r1 lay (SeqAt.canLay_of_shaped sd) room, ?_⟩
    refine ⟨.int ((ds.countP fun z => PyData.eqv z d) : Nat), H, I.tok _, ⟨s.toks, ?_⟩, q⟩
    rw [← hmap, List.countP_map]
    rfl
/-- what isinstance asks of a class of refusals -/
structure ErrY (K : PySem.W.Frag) (C : Addr) : Prop where
  hg : PySem.W.findIn K (.ref C) "__getattribute__" = some (some (.builtin "BaseException.__getattribute__"))
  hk : PySem.W.findIn K (.ref C) "__getattr__" = some none
  hs : PySem.W.subIn K (.ref C) (.type "BaseException") = some true
  hd : PySem.W.hasDictIn K C = true
  ha : PySem.W.findIn K (.ref C) "__class__" = some (some (.builtin "object.__class__"))
  hn : PySem.W.specialIn K (.builtin "object.__class__") "__get__" = some (some (.builtin "getset_descriptor.__get__"))
  ht : PySem.W.takesIn K (.builtin "object.__class__") = some true
  hm : PySem.W.mroIn K C (.type "object") = some true
theorem kit_ref {K : PySem.W.Frag} {C : Addr} {t : Value} {b : Bool} (hd : PySem.W.hasDictIn K C = true) (ty : PySem.W.typeIn K (.ref C) = some (.type "type")) (h : PySem.W.subIn K t (.ref C) = some b) (hne : t = .ref C → b = true) : PySem.W.kitOne K t (.ref C) = some b := by
  unfold PySem.W.kitOne
  split
  · rename_i z
    rw [hne (eq_of_beq z)]
  · obtain ⟨cd, hc, _⟩ := PySem.W.any_some hd
    show (if ((PySem.W.clsIn K C).isSome && PySem.W.typeIn K (.ref C) == some (.type "type")) = true then PySem.W.subIn K t (.ref C) else none) = some b
    rw [hc, ty]
    exact h
theorem kit_ve {K : PySem.W.Frag} {D : Addr} (h : PySem.W.subIn K (.ref D) (.type "ValueError") = some true) : PySem.W.kitOne K (.ref D) (.type "ValueError") = some true := by
  unfold PySem.W.kitOne
  split
  · rfl
  · show (if PySem.W.kitMeta "ValueError" = true then PySem.W.subIn K (.ref D) (.type "ValueError") else none) = some true
    rw [if_pos (by decide +kernel)]
    exact h
/-! ### l.count(x), l.index(x) -/
def lcntD (a b : D) : Option D := match a with
  | .lst xs => if okD (.lst xs) && okD b then some (.int ((xs.countP fun z => deq z b) : Nat)) else none
  | _ => none
def lidxD (a b : D) : Option D := match a with
  | .lst xs => if okD (.lst xs) && okD b then (xs.findIdx? fun z => deq z b).map fun j => .int (j : Nat) else none
  | _ => none
section
variable {X : Cx} {a b : Expr} {fa fb : En → Option D} {ap pos : Pos}
theorem few1 {env : Env} (hst : starEach [b] env = [(false, eval b env)]) : ((backTo pos (starEach [b] env)).all (fun x => !x.1) && (backToKw pos (keywordEach [] env)).all (fun x => x.1.isSome) && decide ([b].length + ([] : List Keyword).length + (if ([] : List Keyword).isEmpty then 0 else 1) < 30)) = true := by
  rw [hst]
  rfl
theorem dp_lst {K : Kf} {F H : Hp} {v : V} {xs : List D} (sf : Same F H) (q : Da K F v (.lst xs)) (ok : okD (.lst xs) = true) : Dp K H v (.list (toPys xs)) := by
  have := q.dp sf (SeqAt.canLay_of_shaped ok)
  rw [toPy] at this
  exact this
theorem pd_lcnt (hu : X.A.units + 65 < cLine) (ha : PE X a (tD X.kf fa)) (hb : PE X b (tD X.kf fb)) (hst : starEach [b] X.env = [(false, eval b X.env)]) (hbase : attributeBase a "count" X.env (eval a X.env) = eval a X.env) (hl : (ap.endLine == pos.line) = true) :
    PE X (.Call (.Attribute a "count" ap) [b] [] pos) (tD X.kf (bind2 lcntD fa fb)) := by
  refine PEi (pe_bm PySem.F.plainAttrs_list PySem.F.slot_list_count PySem.F.type_list_count (mt_lcountD hu) ha (pa_cons hb pa_nil hst) hbase (few1 hst) hl hst rfl) fun σ H Q h => ?_
  obtain ⟨P, F, ρ, d, vw, e, k⟩ := h
  obtain ⟨x, ex, e⟩ := bind_some_iff e
  obtain ⟨y, ey, e⟩ := bind_some_iff e
  obtain ⟨xs, rfl⟩ : ∃ xs, x = .lst xs := by
    cases x with
    | lst xs => exact ⟨xs, rfl⟩
    | _ => cases e
  by_cases hx : True
  · have e : (if (okD (.lst xs) && okD y) = true then some (D.int ((xs.countP fun z => deq z y) : Nat)) else none) = some d := e
    split at e
    · rename_i ok
      rw [Bool.and_eq_true] at ok
      cases e
      refine ⟨P, F, ρ, _, vw, ex, fun v F1 H1 g1 q1 => ?_⟩
      obtain ⟨p, vs, rfl, hp⟩ : ∃ p vs, v = .ref p ∧ F1 p = some (.lst vs) := by cases q1 with | lst h1 _ => exact ⟨_, _, rfl, h1⟩
      refine ⟨.inl ⟨rfl, vs, .of (g1.fh _ _ hp)⟩, P, F1, ρ, y, vw.grow g1, ey, fun w F2 H2 g2 q2 => ?_⟩
      have sl : SeqAt.shaped (.list (toPys xs)) = true := by
        have := ok.1
        unfold okD at this
        rw [toPy] at this
        exact this
      refine ⟨p, w, toPy y, toPys xs, rfl, rfl, dp_lst g2.fh (q1.same g2.ff) ok.1, q2.dp g2.fh (SeqAt.canLay_of_shaped ok.2), sl, ok.2, ?_⟩
      rw [toPys_map, List.countP_map]
      exact k _ F2 H2 (g1.trans g2) (.int _)
    · cases e
  · exact absurd trivial hx
theorem pd_lidx (hu : X.A.units + 65 < cLine) (ha : PE X a (tD X.kf fa)) (hb : PE X b (tD X.kf fb)) (hst : starEach [b] X.env = [(false, eval b X.env)]) (hbase : attributeBase a "index" X.env (eval a X.env) = eval a X.env) (hl : (ap.endLine == pos.line) = true) :
    PE X (.Call (.Attribute a "index" ap) [b] [] pos) (tD X.kf (bind2 lidxD fa fb)) := by
  refine PEi (pe_bm PySem.F.plainAttrs_list PySem.F.slot_list_index PySem.F.type_list_index (mt_indexD hu) ha (pa_cons hb pa_nil hst) hbase (few1 hst) hl hst rfl) fun σ H Q h => ?_
  obtain ⟨P, F, ρ, d, vw, e, k⟩ := h
  obtain ⟨x, ex, e⟩ := bind_some_iff e
  obtain ⟨y, ey, e⟩ := bind_some_iff e
  obtain ⟨xs, rfl⟩ : ∃ xs, x = .lst xs := by
    cases x with
    | lst xs => exact ⟨xs, rfl⟩
    | _ => cases e
  by_cases hx : True
  · have e : (if (okD (.lst xs) && okD y) = true then (xs.findIdx? fun z => deq z y).map fun j => D.int (j : Nat) else none) = some d := e
    split at e
    · rename_i ok
      rw [Bool.and_eq_true] at ok
      obtain ⟨j, ej, rfl⟩ := Option.map_eq_some_iff.mp e
      obtain ⟨hj, h1, h2⟩ := List.findIdx?_eq_some_iff_getElem.mp ej
      refine ⟨P, F, ρ, _, vw, ex, fun v F1 H1 g1 q1 => ?_⟩
      obtain ⟨p, vs, rfl, hp⟩ : ∃ p vs, v = .ref p ∧ F1 p = some (.lst vs) := by cases q1 with | lst h1 _ => exact ⟨_, _, rfl, h1⟩
      refine ⟨.inl ⟨rfl, vs, .of (g1.fh _ _ hp)⟩, P, F1, ρ, y, vw.grow g1, ey, fun w F2 H2 g2 q2 => ?_⟩
      have sl : SeqAt.shaped (.list (toPys xs)) = true := by
        have := ok.1
        unfold okD at this
        rw [toPy] at this
        exact this
      refine ⟨p, w, toPy y, toPys xs, j, toPy xs[j], rfl, rfl, dp_lst g2.fh (q1.same g2.ff) ok.1, q2.dp g2.fh (SeqAt.canLay_of_shaped ok.2), sl, ok.2, ?_, h1, fun m z hm hz => ?_, k _ F2 H2 (g1.trans g2) (.int _)⟩
      · rw [toPys_map, List.getElem?_map, List.getElem?_eq_getElem hj]
        rfl
      · rw [toPys_map, List.getElem?_map, List.getElem?_eq_getElem (Nat.lt_trans hm hj)] at hz
        cases hz
        have := h2 m hm
        unfold deq at this
        simpa using this
    · cases e
  · exact absurd trivial hx
end
/-- slots of which nothing is known -/
theorem vw_none {K : Kf} {F H : Hp} {σ : St} (sf : Same F H) : Vw K (fun _ => True) F H σ (List.replicate σ.length .no) := by
  refine ⟨sf, by rw [List.length_replicate], fun _ => [], fun i s o e1 _ => ?_, fun i a _ h => absurd h List.not_mem_nil, fun i j a _ _ h => absurd h List.not_mem_nil⟩
  rw [List.getElem?_replicate] at e1
  split at e1
  · cases e1
    exact .inl ⟨rfl, rfl⟩
  · cases e1
/-! ### the classes of refusals -/
structure XAt (K : PySem.W.Frag) (C0 Cs Cf Ct : Addr) : Prop where
  n0 : PySem.W.nsIn K mainGlobals "StoneError" = some (some (.ref C0))
  d0 : PySem.W.hasDictIn K C0 = true
  y0 : PySem.W.typeIn K (.ref C0) = some (.type "type")
  b0 : PySem.W.subIn K (.ref C0) (.type "BaseException") = some true
  s : EAt K "NoStone" Cs
  sy : ErrY K Cs
  f : EAt K "NoFit" Cf
  fy : ErrY K Cf
  t : EAt K "NoText" Ct
  ty : ErrY K Ct
  s0 : PySem.W.subIn K (.ref Cs) (.ref C0) = some true
  f0 : PySem.W.subIn K (.ref Cf) (.ref C0) = some true
  t0 : PySem.W.subIn K (.ref Ct) (.ref C0) = some true
  sv : PySem.W.subIn K (.ref Cs) (.type "ValueError") = some true
  fv : PySem.W.subIn K (.ref Cf) (.type "ValueError") = some true
  tv : PySem.W.subIn K (.ref Ct) (.type "ValueError") = some true
  ss : PySem.W.subIn K (.ref Cs) (.ref Cs) = some true
  sf : PySem.W.subIn K (.ref Cs) (.ref Cf) = some false
  st : PySem.W.subIn K (.ref Cs) (.ref Ct) = some false
  fs : PySem.W.subIn K (.ref Cf) (.ref Cs) = some false
  ff : PySem.W.subIn K (.ref Cf) (.ref Cf) = some true
  ft : PySem.W.subIn K (.ref Cf) (.ref Ct) = some false
  ts : PySem.W.subIn K (.ref Ct) (.ref Cs) = some false
  tf : PySem.W.subIn K (.ref Ct) (.ref Cf) = some false
  tt : PySem.W.subIn K (.ref Ct) (.ref Ct) = some true
def clsA (Cs Cf Ct : Addr) : Nat → Addr
  | 0 => Cs
  | 1 => Cf
  | _ => Ct
section
variable {K : PySem.W.Frag} {C0 Cs Cf Ct : Addr}
theorem ne_sub {D C : Addr} (h : PySem.W.subIn K (.ref D) (.ref D) = some true) (h2 : PySem.W.subIn K (.ref D) (.ref C) = some false) : Value.ref D = .ref C → false = true := fun z => by
  injection z with z
  subst z
  rw [h] at h2
  cases h2
theorem XAt.errY (X : XAt K C0 Cs Cf Ct) (c : Nat) : ErrY K (clsA Cs Cf Ct c) := match c with
  | 0 => X.sy
  | 1 => X.fy
  | _ + 2 => X.ty
theorem XAt.eat (X : XAt K C0 Cs Cf Ct) (c : Nat) : EAt K (clsN c) (clsA Cs Cf Ct c) := match c with
  | 0 => X.s
  | 1 => X.f
  | _ + 2 => X.t
theorem XAt.sub0 (X : XAt K C0 Cs Cf Ct) (c : Nat) : PySem.W.subIn K (.ref (clsA Cs Cf Ct c)) (.ref C0) = some true := match c with
  | 0 => X.s0
  | 1 => X.f0
  | _ + 2 => X.t0
theorem XAt.subV (X : XAt K C0 Cs Cf Ct) (c : Nat) : PySem.W.subIn K (.ref (clsA Cs Cf Ct c)) (.type "ValueError") = some true := match c with
  | 0 => X.sv
  | 1 => X.fv
  | _ + 2 => X.tv
/-- what isinstance tells of a refusal of class c: NoFit, NoStone, NoText -/
def kindB : Nat → Bool × Bool × Bool
  | 0 => (false, true, false)
  | 1 => (true, false, false)
  | _ => (false, false, true)
theorem XAt.kinds (X : XAt K C0 Cs Cf Ct) (c : Nat) : PySem.W.kitOne K (.ref (clsA Cs Cf Ct c)) (.ref Cf) = some (kindB c).1 ∧ PySem.W.kitOne K (.ref (clsA Cs Cf Ct c)) (.ref Cs) = some (kindB c).2.1 ∧ PySem.W.kitOne K (.ref (clsA Cs Cf Ct c)) (.ref Ct) = some (kindB c).2.2 := match c with
  | 0 => ⟨kit_ref X.fy.hd X.f.ty X.sf (ne_sub X.ss X.sf), kit_ref X.sy.hd X.s.ty X.ss (fun _ => rfl), kit_ref X.ty.hd X.t.ty X.st (ne_sub X.ss X.st)⟩
  | 1 => ⟨kit_ref X.fy.hd X.f.ty X.ff (fun _ => rfl), kit_ref X.sy.hd X.s.ty X.fs (ne_sub X.ff X.fs), kit_ref X.ty.hd X.t.ty X.ft (ne_sub X.ff X.ft)⟩
  | _ + 2 => ⟨kit_ref X.fy.hd X.f.ty X.tf (ne_sub X.tt X.tf), kit_ref X.sy.hd X.s.ty X.ts (ne_sub X.tt X.ts), kit_ref X.ty.hd X.t.ty X.tt (fun _ => rfl)⟩
theorem XAt.exm (X : XAt K C0 Cs Cf Ct) (c : Nat) : PySem.W.exmOne K (.ref (clsA Cs Cf Ct c)) (.ref C0) = some true := PySem.W.exm_ref X.b0 X.d0 X.y0 (X.sub0 c)
theorem ErrY.exc {C : Addr} (Y : ErrY K C) : ExcC K C := ⟨Y.hg, Y.hk, Y.hs, Y.hd, Y.ha, Y.hn, Y.ht, Y.hm⟩
end
/-- the word of a refusal, p its place -/
def spWd (p : Addr × Obj) (c : Nat) : List V → Hp → VK → Prop := fun vs H Q => vs = [.ref p.1] ∧ ∃ F, Same F H ∧ ∀ F' H', Gr F H F' H' → Q (.str (mkS (wordL c))) H'
end DL
end
namespace Lw
open PySem PySem.Spec L2 DL
open PyProof.Rows hiding St
def topS (i : Nat) : Stmt := PySem.Challenge.pw_stonetexts_k05_papers.main.body.getD i (.Pass ⟨0, 0, 0, 0⟩)
def d_over_of : MD := { name := "over_of", ps := ["above", "below"], N := ["above", "below"], body :=
    (.cons (.ite (.cmp .eq (.var 0) (.var 1)) (.cons (.ret (.glo 1))
    .nil) .nil)
    (.cons (.ite (.m1 .starts (.var 0) (.var 1)) (.cons (.ret (.tup (.cons (.str [97, 98, 111, 118, 101]) (.cons (.slc (.var 0) (.some (.blt .len (.cons (.var 1) .nil))) .none) .nil))))
    .nil) .nil)
    (.cons (.ite (.m1 .starts (.var 1) (.var 0)) (.cons (.ret (.tup (.cons (.str [98, 101, 108, 111, 119]) (.cons (.slc (.var 1) (.some (.blt .len (.cons (.var 0) .nil))) .none) .nil))))
    .nil) .nil)
    (.cons (.ret .non)
    .nil)))) }
def d_next_over : MD := { name := "next_over", ps := ["deal", "one", "number"], N := ["deal", "one", "number", "above", "below"], body :=
    (.cons (.asg (.tp (.cons (.nm 3) (.cons (.nm 4) .nil))) (.idx (.var 0) (.var 2)))
    (.cons (.ite (.cmp .eq (.idx (.var 1) (.int 0)) (.str [97, 98, 111, 118, 101])) (.cons (.ret (.call 0 (.cons (.bin .add (.idx (.var 1) (.int 1)) (.var 3)) (.cons (.var 4) .nil))))
    .nil) .nil)
    (.cons (.ret (.call 0 (.cons (.var 3) (.cons (.bin .add (.idx (.var 1) (.int 1)) (.var 4)) .nil))))
    .nil))) }
def d_fitting : MD := { name := "fitting", ps := ["deal", "one"], N := ["deal", "one", "number"], body :=
    (.cons (.ret (.blt .tuple (.cons (.comp (.var 2) (.nm 2) (.rng1 (.blt .len (.cons (.var 0) .nil))) (.some (.cmp .isn (.call 1 (.cons (.var 0) (.cons (.var 1) (.cons (.var 2) .nil)))) .non))) .nil)))
    .nil) }
def d_is_over : MD := { name := "is_over", ps := ["thing"], N := ["thing", "one", "sign"], body :=
    (.cons (.ite (.or (.cons (.not (.isi .tuple (.var 0))) (.cons (.cmp .ne (.blt .len (.cons (.var 0) .nil)) (.int 2)) (.cons (.not (.blt .all (.cons (.comp (.isi .str (.var 1)) (.nm 1) (.dat (.var 0)) .none) .nil))) .nil)))) (.cons (.ret (.bl false))
    .nil) .nil)
    (.cons (.ret (.and (.cons (.cmp .in_ (.idx (.var 0) (.int 0)) (.tup (.cons (.str [97, 98, 111, 118, 101]) (.cons (.str [98, 101, 108, 111, 119]) .nil)))) (.cons (.cmp .ne (.idx (.var 0) (.int 1)) (.str [])) (.cons (.blt .all (.cons (.comp (.cmp .in_ (.var 2) (.glo 0)) (.nm 2) (.dat (.idx (.var 0) (.int 1))) .none) .nil)) .nil)))))
    .nil)) }
def d_goals : MD := { name := "goals", ps := ["deal", "one"], N := ["deal", "one", "number"], body :=
    (.cons (.ret (.comp (.call 1 (.cons (.var 0) (.cons (.var 1) (.cons (.var 2) .nil)))) (.nm 2) (.dat (.call 2 (.cons (.var 0) (.cons (.var 1) .nil)))) .none))
    .nil) }
def b_is_closed_1 : MSs :=
    (.cons (.ite (.not (.blt .all (.cons (.comp (.cmp .in_ (.var 3) (.var 1)) (.nm 3) (.dat (.call 4 (.cons (.var 0) (.cons (.var 2) .nil)))) .none) .nil))) (.cons (.ret (.bl false))
    .nil) .nil)
    .nil)
def d_is_closed : MD := { name := "is_closed", ps := ["deal", "some"], N := ["deal", "some", "one", "goal"], body :=
    (.cons (.for_ (.nm 2) (.dat (.bin .add (.lst (.cons (.glo 1) .nil)) (.blt .list (.cons (.var 1) .nil)))) b_is_closed_1)
    (.cons (.ret (.bl true))
    .nil)) }
def d_is_paper : MD := { name := "is_paper", ps := ["deal", "thing"], N := ["deal", "thing", "one", "k"], body :=
    (.cons (.ite (.or (.cons (.not (.isi .tuple (.var 1))) (.cons (.not (.blt .all (.cons (.comp (.call 3 (.cons (.var 2) .nil)) (.nm 2) (.dat (.var 1)) .none) .nil))) .nil))) (.cons (.ret (.bl false))
    .nil) .nil)
    (.cons (.ite (.not (.blt .all (.cons (.comp (.cmp .lt (.idx (.var 1) (.bin .sub (.var 3) (.int 1))) (.idx (.var 1) (.var 3))) (.nm 3) (.rng2 (.int 1) (.blt .len (.cons (.var 1) .nil))) .none) .nil))) (.cons (.ret (.bl false))
    .nil) .nil)
    (.cons (.ret (.call 5 (.cons (.var 0) (.cons (.var 1) .nil))))
    .nil))) }
def b_reach_2 : MSs :=
    (.cons (.ite (.and (.cons (.cmp .ne (.var 4) (.glo 1)) (.cons (.cmp .le (.blt .len (.cons (.idx (.var 4) (.int 1)) .nil)) (.var 1)) (.cons (.mnin 2 (.var 4)) .nil)))) (.cons (.put 2 (.var 4) (.bl true))
    (.cons (.app 3 (.var 4))
    .nil)) .nil)
    .nil)
def b_reach_1 : MSs :=
    (.cons (.forP (.nm 4) 4 (.var 0) 3 b_reach_2)
    .nil)
def d_reach : MD := { name := "reach", ps := ["deal", "long"], N := ["deal", "long", "found", "left", "goal"], body :=
    (.cons (.setM 2)
    (.cons (.setL 3 (.cons (.glo 1) .nil))
    (.cons (.whl 1000000 3 b_reach_1)
    (.cons (.ret (.blt .tuple (.cons (.sortM 2) .nil)))
    .nil)))) }
def d_paper : MD := { name := "paper", ps := ["deal", "long"], N := ["deal", "long", "found"], body :=
    (.cons (.asg (.nm 2) (.call 7 (.cons (.var 0) (.cons (.var 1) .nil))))
    (.cons (.ite (.not (.call 6 (.cons (.var 0) (.cons (.var 2) .nil)))) (.cons (.ret .non)
    .nil) .nil)
    (.cons (.ret (.var 2))
    .nil))) }
def d_sorted_out : MD := { name := "sorted_out", ps := ["deal", "long"], N := ["deal", "long", "found", "one"], body :=
    (.cons (.asg (.nm 2) (.call 7 (.cons (.var 0) (.cons (.var 1) .nil))))
    (.cons (.ite (.blt .any (.cons (.comp (.cmp .in_ (.glo 1) (.call 4 (.cons (.var 0) (.cons (.var 3) .nil)))) (.nm 3) (.dat (.bin .add (.tup (.cons (.glo 1) .nil)) (.var 2))) .none) .nil)) (.cons (.ret (.str [99, 111, 109, 109, 111, 110]))
    .nil) .nil)
    (.cons (.ite (.call 5 (.cons (.var 0) (.cons (.var 2) .nil))) (.cons (.ret (.str [110, 111, 110, 101]))
    .nil) .nil)
    (.cons (.ret (.str [111, 112, 101, 110]))
    .nil)))) }
def d__law_cell : MD := { name := "_law_cell", ps := ["script", "k"], N := ["script", "k"], body :=
    (.cons (.ite (.cmp .lt (.var 1) (.blt .len (.cons (.var 0) .nil))) (.cons (.ret (.idx (.var 0) (.var 1)))
    .nil) .nil)
    (.cons (.ret (.int 0))
    .nil)) }
def d__law_mix : MD := { name := "_law_mix", ps := ["cell", "prime", "many"], N := ["cell", "prime", "many", "blend"], body :=
    (.cons (.asg (.nm 3) (.bin .mod (.bin .mul (.var 0) (.int 48271)) (.var 1)))
    (.cons (.ret (.bin .mod (.bin .mod (.bin .mul (.var 3) (.bin .add (.var 3) (.int 7))) (.var 1)) (.var 2)))
    .nil)) }
def d__law_same : MD := { name := "_law_same", ps := ["found", "due"], N := ["found", "due", "one", "other"], body :=
    (.cons (.ite (.isi .tuple (.var 1)) (.cons (.ite (.or (.cons (.not (.isi .tuple (.var 0))) (.cons (.cmp .ne (.blt .len (.cons (.var 0) .nil)) (.blt .len (.cons (.var 1) .nil))) .nil))) (.cons (.ret (.bl false))
    .nil) .nil)
    (.cons (.ret (.blt .all (.cons (.comp (.call 12 (.cons (.var 2) (.cons (.var 3) .nil))) (.tp (.cons (.nm 2) (.cons (.nm 3) .nil))) (.zip (.var 0) (.var 1)) .none) .nil)))
    .nil)) .nil)
    (.cons (.ite (.cmp .is (.var 1) .non) (.cons (.ret (.cmp .is (.var 0) .non))
    .nil) .nil)
    (.cons (.ite (.or (.cons (.isi .bool (.var 1)) (.cons (.isi .bool (.var 0)) .nil))) (.cons (.ret (.and (.cons (.isi .bool (.var 1)) (.cons (.isi .bool (.var 0)) (.cons (.cmp .eq (.var 0) (.var 1)) .nil)))))
    .nil) .nil)
    (.cons (.ret (.and (.cons (.isi2 .int .str (.var 0)) (.cons (.cmp .eq (.var 0) (.var 1)) .nil))))
    .nil)))) }
def d__law_letters : MD := { name := "_law_letters", ps := ["cell", "many"], N := ["cell", "many", "j"], body :=
    (.cons (.ret (.m1 .join (.str []) (.comp (.idx (.str [97, 98]) (.call 11 (.cons (.bin .add (.var 0) (.bin .mul (.int 7) (.var 2))) (.cons (.int 9973) (.cons (.int 2) .nil))))) (.nm 2) (.rng1 (.var 1)) .none)))
    .nil) }
def b__law_deal_1 : MSs :=
    (.cons (.asg (.nm 3) (.bin .add (.var 0) (.bin .mul (.int 31) (.var 2))))
    (.cons (.asg (.nm 4) (.call 13 (.cons (.var 3) (.cons (.bin .add (.int 1) (.call 11 (.cons (.var 3) (.cons (.int 9949) (.cons (.int 3) .nil))))) .nil))))
    (.cons (.asg (.nm 5) (.call 13 (.cons (.bin .add (.var 3) (.int 3)) (.cons (.bin .add (.int 1) (.call 11 (.cons (.var 3) (.cons (.int 9941) (.cons (.int 3) .nil))))) .nil))))
    (.cons (.asg (.nm 6) (.call 11 (.cons (.var 3) (.cons (.int 9931) (.cons (.int 8) .nil)))))
    (.cons (.ite (.cmp .lt (.var 6) (.int 3)) (.cons (.asg (.nm 5) (.slc (.bin .add (.var 4) (.var 5)) .none (.some (.int 3))))
    .nil) .nil)
    (.cons (.ite (.cmp .in_ (.var 6) (.tup (.cons (.int 3) (.cons (.int 4) .nil)))) (.cons (.asg (.nm 4) (.slc (.bin .add (.var 4) (.var 5)) (.some (.neg 3)) .none))
    .nil) .nil)
    (.cons (.ite (.cmp .eq (.var 6) (.int 5)) (.cons (.asg (.nm 4) (.var 5))
    .nil) .nil)
    (.cons (.app 1 (.ite (.cmp .eq (.bin .mod (.var 0) (.int 2)) (.int 0)) (.tup (.cons (.var 4) (.cons (.var 5) .nil))) (.tup (.cons (.var 5) (.cons (.var 4) .nil)))))
    .nil))))))))
def d__law_deal : MD := { name := "_law_deal", ps := ["cell"], N := ["cell", "found", "k", "seed", "above", "below", "way"], body :=
    (.cons (.setL 1 .nil)
    (.cons (.for_ (.nm 2) (.rng1 (.bin .add (.int 1) (.call 11 (.cons (.var 0) (.cons (.int 9967) (.cons (.int 4) .nil)))))) b__law_deal_1)
    (.frz 1 (.cons (.ret (.blt .tuple (.cons (.var 1) .nil)))
    .nil)))) }
def b__law_texts_1 : MSs :=
    (.cons (.asg (.nm 2) (.bin .add (.var 2) (.idx (.idx (.var 0) (.var 4)) (.int 0))))
    (.cons (.asg (.nm 3) (.bin .add (.var 3) (.idx (.idx (.var 0) (.var 4)) (.int 1))))
    .nil))
def d__law_texts : MD := { name := "_law_texts", ps := ["deal", "row"], N := ["deal", "row", "above", "below", "number"], body :=
    (.cons (.asg (.tp (.cons (.nm 2) (.cons (.nm 3) .nil))) (.tup (.cons (.str []) (.cons (.str []) .nil))))
    (.cons (.for_ (.nm 4) (.dat (.var 1)) b__law_texts_1)
    (.cons (.ret (.tup (.cons (.var 2) (.cons (.var 3) .nil))))
    .nil))) }
def d__law_over : MD := { name := "_law_over", ps := ["deal", "row"], N := ["deal", "row", "above", "below", "short"], body :=
    (.cons (.asg (.tp (.cons (.nm 2) (.cons (.nm 3) .nil))) (.call 15 (.cons (.var 0) (.cons (.var 1) .nil))))
    (.cons (.asg (.nm 4) (.blt .min (.cons (.blt .len (.cons (.var 2) .nil)) (.cons (.blt .len (.cons (.var 3) .nil)) .nil))))
    (.cons (.ite (.cmp .ne (.slc (.var 2) .none (.some (.var 4))) (.slc (.var 3) .none (.some (.var 4)))) (.cons (.ret .non)
    .nil) .nil)
    (.cons (.ite (.cmp .eq (.blt .len (.cons (.var 2) .nil)) (.blt .len (.cons (.var 3) .nil))) (.cons (.ret (.tup (.cons (.str [101, 118, 101, 110]) (.cons (.str []) .nil))))
    .nil) .nil)
    (.cons (.ret (.ite (.cmp .gt (.blt .len (.cons (.var 2) .nil)) (.var 4)) (.tup (.cons (.str [97, 98, 111, 118, 101]) (.cons (.slc (.var 2) (.some (.var 4)) .none) .nil))) (.tup (.cons (.str [98, 101, 108, 111, 119]) (.cons (.slc (.var 3) (.some (.var 4)) .none) .nil)))))
    .nil))))) }
def d__law_odd : MD := { name := "_law_odd", ps := ["thing", "cell"], N := ["thing", "cell", "at", "some"], body :=
    (.cons (.ite (.and (.cons (.isi .tuple (.var 0)) (.cons (.cmp .ne (.var 0) (.tup .nil)) (.cons (.cmp .gt (.call 11 (.cons (.var 1) (.cons (.int 9781) (.cons (.int 5) .nil)))) (.int 0)) .nil)))) (.cons (.asg (.nm 2) (.call 11 (.cons (.var 1) (.cons (.int 9769) (.cons (.blt .len (.cons (.var 0) .nil)) .nil)))))
    (.cons (.ret (.bin .add (.bin .add (.slc (.var 0) .none (.some (.var 2))) (.tup (.cons (.call 17 (.cons (.idx (.var 0) (.var 2)) (.cons (.bin .add (.bin .add (.var 1) (.bin .mul (.int 31) (.var 2))) (.int 7)) .nil))) .nil))) (.slc (.var 0) (.some (.bin .add (.var 2) (.int 1))) .none)))
    .nil)) .nil)
    (.cons (.asg (.nm 3) (.lst (.cons .non (.cons (.bl true) (.cons (.bl false) (.cons (.int 0) (.cons (.int 1) (.cons (.neg 1) (.cons (.int 2) (.cons (.int 7) (.cons (.int 10) (.cons (.int 1000) (.cons (.str []) (.cons (.str [97]) (.cons (.str [65]) (.cons (.tup .nil) (.cons (.tup (.cons (.str [97]) .nil)) (.cons (.lst (.cons (.int 1) .nil)) .nil))))))))))))))))))
    (.cons (.ite (.isi .tuple (.var 0)) (.cons (.asg (.nm 3) (.bin .add (.var 3) (.bin .mul (.lst (.cons (.blt .list (.cons (.var 0) .nil)) (.cons (.bin .add (.var 0) (.slc (.var 0) (.some (.neg 1)) .none)) (.cons (.slc (.var 0) .none (.some (.neg 1))) (.cons (.rev (.var 0)) (.cons (.slc (.var 0) (.some (.int 1)) .none) (.cons (.tup (.cons (.var 0) .nil)) .nil))))))) (.int 2))))
    .nil) (.cons (.ite (.isi .str (.var 0)) (.cons (.asg (.nm 3) (.bin .add (.var 3) (.bin .mul (.lst (.cons (.bin .add (.var 0) (.str [97])) (.cons (.slc (.var 0) .none (.some (.neg 1))) (.cons (.m0 .upper (.var 0)) (.cons (.bin .add (.var 0) (.str [32])) (.cons (.bin .mul (.var 0) (.int 2)) (.cons (.lst (.cons (.var 0) .nil)) (.cons (.bin .add (.var 0) (.slc (.var 0) .none (.some (.int 1)))) .nil)))))))) (.int 2))))
    .nil) (.cons (.ite (.isi .int (.var 0)) (.cons (.asg (.nm 3) (.bin .add (.var 3) (.bin .mul (.lst (.cons (.bin .add (.var 0) (.int 1)) (.cons (.bin .sub (.var 0) (.int 1)) (.cons (.bin .sub (.int 0) (.var 0)) (.cons (.tup (.cons (.var 0) .nil)) (.cons (.bin .add (.var 0) (.int 2)) (.cons (.bin .mul (.var 0) (.int 2)) .nil))))))) (.int 2))))
    .nil) .nil)
    .nil))
    .nil))
    (.cons (.ret (.idx (.var 3) (.call 11 (.cons (.var 1) (.cons (.int 9749) (.cons (.blt .len (.cons (.var 3) .nil)) .nil))))))
    .nil)))) }
def b__law_is_paper_1 : MSs :=
    (.cons (.ite (.or (.cons (.not (.isi .tuple (.var 2))) (.cons (.cmp .ne (.blt .len (.cons (.var 2) .nil)) (.int 2)) (.cons (.cmp .nin (.idx (.var 2) (.int 0)) (.tup (.cons (.str [97, 98, 111, 118, 101]) (.cons (.str [98, 101, 108, 111, 119]) .nil)))) .nil)))) (.cons (.ret (.bl false))
    .nil) .nil)
    (.cons (.ite (.not (.isi .str (.idx (.var 2) (.int 1)))) (.cons (.ret (.bl false))
    .nil) .nil)
    (.cons (.ite (.or (.cons (.cmp .eq (.idx (.var 2) (.int 1)) (.str [])) (.cons (.cmp .ne (.comp (.var 3) (.nm 3) (.dat (.idx (.var 2) (.int 1))) (.some (.cmp .nin (.var 3) (.tup (.cons (.str [97]) (.cons (.str [98]) .nil)))))) (.lst .nil)) .nil))) (.cons (.ret (.bl false))
    .nil) .nil)
    .nil)))
def b__law_is_paper_3 : MSs :=
    (.cons (.asg (.nm 5) (.call 19 (.cons (.var 0) (.cons (.var 2) (.cons (.var 4) .nil)))))
    (.cons (.ite (.and (.cons (.cmp .isn (.var 5) .non) (.cons (.cmp .nin (.var 5) (.var 1)) .nil))) (.cons (.ret (.bl false))
    .nil) .nil)
    .nil))
def b__law_is_paper_2 : MSs :=
    (.cons (.for_ (.nm 4) (.rng1 (.blt .len (.cons (.var 0) .nil))) b__law_is_paper_3)
    .nil)
def d__law_is_paper : MD := { name := "_law_is_paper", ps := ["deal", "thing"], N := ["deal", "thing", "one", "sign", "number", "goal"], body :=
    (.cons (.ite (.not (.isi .tuple (.var 1))) (.cons (.ret (.bl false))
    .nil) .nil)
    (.cons (.for_ (.nm 2) (.dat (.var 1)) b__law_is_paper_1)
    (.cons (.ite (.cmp .ne (.blt .list (.cons (.var 1) .nil)) (.srtS (.var 1))) (.cons (.ret (.bl false))
    .nil) .nil)
    (.cons (.for_ (.nm 2) (.dat (.bin .add (.tup (.cons (.tup (.cons (.str [101, 118, 101, 110]) (.cons (.str []) .nil))) .nil)) (.var 1))) b__law_is_paper_2)
    (.cons (.ret (.bl true))
    .nil))))) }
def d__law_led : MD := { name := "_law_led", ps := ["deal", "one", "number"], N := ["deal", "one", "number", "above", "below"], body :=
    (.cons (.asg (.tp (.cons (.nm 3) (.cons (.nm 4) .nil))) (.idx (.var 0) (.var 2)))
    (.cons (.ite (.cmp .eq (.idx (.var 1) (.int 0)) (.str [97, 98, 111, 118, 101])) (.cons (.asg (.nm 3) (.bin .add (.idx (.var 1) (.int 1)) (.var 3)))
    .nil) (.cons (.ite (.cmp .eq (.idx (.var 1) (.int 0)) (.str [98, 101, 108, 111, 119])) (.cons (.asg (.nm 4) (.bin .add (.idx (.var 1) (.int 1)) (.var 4)))
    .nil) .nil)
    .nil))
    (.cons (.ret (.call 16 (.cons (.tup (.cons (.tup (.cons (.var 3) (.cons (.var 4) .nil))) .nil)) (.cons (.tup (.cons (.int 0) .nil)) .nil))))
    .nil))) }
def b__law_reach_3 : MSs :=
    (.cons (.asg (.nm 7) (.call 19 (.cons (.var 0) (.cons (.var 5) (.cons (.var 6) .nil)))))
    (.cons (.ite (.bor [4] (.and (.cons (.cmp .isn (.var 7) .non) (.cons (.chain .lt .le (.int 0) (.blt .len (.cons (.idx (.var 7) (.int 1)) .nil)) (.var 1)) (.cons (.cmp .nin (.var 7) (.bin .add (.var 2) (.var 4))) .nil))))) (.cons (.app 4 (.var 7))
    .nil) .nil)
    .nil))
def b__law_reach_2 : MSs :=
    (.cons (.for_ (.nm 6) (.rng1 (.blt .len (.cons (.var 0) .nil))) b__law_reach_3)
    .nil)
def b__law_reach_1 : MSs :=
    (.cons (.setL 4 .nil)
    (.cons (.for_ (.nm 5) (.dat (.var 3)) b__law_reach_2)
    (.frz 4 (.cons (.asg (.nm 2) (.bin .add (.var 2) (.var 4)))
    (.cons (.asg (.nm 3) (.var 4))
    .nil)))))
def d__law_reach : MD := { name := "_law_reach", ps := ["deal", "long"], N := ["deal", "long", "found", "last", "new", "one", "number", "goal"], body :=
    (.cons (.asg (.nm 2) (.lst .nil))
    (.cons (.asg (.nm 3) (.lst (.cons (.tup (.cons (.str [101, 118, 101, 110]) (.cons (.str []) .nil))) .nil)))
    (.cons (.whE 100000 (.cmp .ne (.var 3) (.lst .nil)) b__law_reach_1)
    (.cons (.ret (.blt .tuple (.cons (.blt .sorted (.cons (.var 2) .nil)) .nil)))
    .nil)))) }
def i_law_1 : MS :=
    (.ite (.not (.call 12 (.cons (.tup (.cons (.call 7 (.cons (.var 3) (.cons (.var 4) .nil))) (.cons (.call 8 (.cons (.var 3) (.cons (.var 4) .nil))) .nil))) (.cons (.tup (.cons (.var 5) (.cons (.var 6) .nil))) .nil)))) (.cons (.ret (.bl false))
    .nil) .nil)
def b_law_2 : MSs :=
    (.cons (.extC 7 (.call 19 (.cons (.var 3) (.cons (.var 8) (.cons (.var 9) .nil)))) (.nm 9) (.rng1 (.blt .len (.cons (.var 3) .nil))) .none)
    .nil)
def i_law_2 : MS :=
    (.ite (.bor [7] (.cmp .in_ (.tup (.cons (.str [101, 118, 101, 110]) (.cons (.str []) .nil))) (.var 7))) (.cons (.asg (.nm 10) (.str [99, 111, 109, 109, 111, 110]))
    .nil) .nil)
def i_law_3 : MS :=
    (.ite (.cmp .ne (.call 9 (.cons (.var 3) (.cons (.var 4) .nil))) (.var 10)) (.cons (.ret (.bl false))
    .nil) .nil)
def b_law_3 : MSs :=
    (.cons (.app 11 (.blt .tuple (.cons (.blt .sorted (.cons (.bin .add (.var 5) (.tup (.cons (.var 12) .nil))) .nil)) .nil)))
    .nil)
def b_law_4 : MSs :=
    (.cons (.app 11 (.call 17 (.cons (.var 5) (.cons (.bin .add (.bin .add (.call 10 (.cons (.var 0) (.cons (.int 9) .nil))) (.bin .mul (.int 17) (.var 13))) (.bin .mul (.int 5) (.var 1))) .nil))))
    .nil)
def i_law_4 : MS :=
    (.ite (.or (.cons (.and (.cons (.cmp .isn (.var 15) (.bl true)) (.cons (.var 16) .nil))) (.cons (.and (.cons (.cmp .isn (.var 15) (.bl false)) (.cons (.not (.var 16)) .nil))) .nil))) (.cons (.ret (.bl false))
    .nil) .nil)
def b_law_5 : MSs :=
    (.cons (.par 15 16 (.call 6 (.cons (.var 3) (.cons (.var 14) .nil))) (.call 18 (.cons (.var 3) (.cons (.var 14) .nil))))
    (.cons i_law_4
    .nil))
def b_law_1 : MSs :=
    (.cons (.asg (.nm 2) (.bin .add (.call 10 (.cons (.var 0) (.cons (.var 1) .nil))) (.bin .mul (.int 3) (.var 1))))
    (.cons (.asg (.nm 3) (.call 14 (.cons (.var 2) .nil)))
    (.cons (.asg (.nm 4) (.bin .add (.int 1) (.call 11 (.cons (.bin .add (.call 10 (.cons (.var 0) (.cons (.int 8) .nil))) (.var 1)) (.cons (.int 9901) (.cons (.int 8) .nil))))))
    (.cons (.asg (.nm 5) (.call 20 (.cons (.var 3) (.cons (.var 4) .nil))))
    (.cons (.asg (.nm 6) (.ite (.call 18 (.cons (.var 3) (.cons (.var 5) .nil))) (.var 5) .non))
    (.cons i_law_1
    (.cons (.setL 7 .nil)
    (.cons (.for_ (.nm 8) (.dat (.bin .add (.tup (.cons (.tup (.cons (.str [101, 118, 101, 110]) (.cons (.str []) .nil))) .nil)) (.var 5))) b_law_2)
    (.cons (.asg (.nm 10) (.ite (.cmp .is (.var 6) .non) (.str [111, 112, 101, 110]) (.str [110, 111, 110, 101])))
    (.cons i_law_2
    (.cons i_law_3
    (.cons (.setL 11 (.cons (.var 5) (.cons .non (.cons (.tup .nil) (.cons (.slc (.var 5) (.some (.int 1)) .none) .nil)))))
    (.frz 11 (.cons (.setK 11 (.var 11) (.lst (.cons (.slc (.var 5) .none (.some (.neg 1))) (.cons (.rev (.var 5)) (.cons (.bin .add (.var 5) (.tup (.cons (.tup (.cons (.str [98, 101, 108, 111, 119]) (.cons (.bin .mul (.str [98]) (.int 9)) .nil))) .nil))) (.cons (.bin .add (.tup (.cons (.tup (.cons (.str [101, 118, 101, 110]) (.cons (.str []) .nil))) .nil)) (.var 5)) .nil))))))
    (.cons (.app 11 (.blt .tuple (.cons (.blt .sorted (.cons (.bin .add (.var 5) (.tup (.cons (.tup (.cons (.str [97, 98, 111, 118, 101]) (.cons (.str [97, 98, 97, 98]) .nil))) .nil))) .nil)) .nil)))
    (.cons (.for_ (.nm 12) (.dat (.tup (.cons (.tup (.cons (.str [97, 98, 111, 118, 101]) (.cons (.str []) .nil))) (.cons (.tup (.cons (.str [98, 101, 108, 111, 119]) (.cons (.str []) .nil))) (.cons (.tup (.cons (.str [97, 98, 111, 118, 101]) (.cons (.str [99]) .nil))) (.cons (.tup (.cons (.str [98, 101, 108, 111, 119]) (.cons (.str [65, 32, 98]) .nil))) (.cons (.tup (.cons (.str [101, 118, 101, 110]) (.cons (.str [122, 122]) .nil))) (.cons (.tup (.cons (.str [110, 111, 110, 101]) (.cons (.bin .mul (.str [98]) (.int 9)) .nil))) .nil)))))))) b_law_3)
    (.cons (.for_ (.nm 13) (.rng1 (.int 12)) b_law_4)
    (.frz 11 (.cons (.for_ (.nm 14) (.dat (.var 11)) b_law_5)
    .nil)))))))))))))))))))
def i_law_5 : MS :=
    (.ite (.or (.cons (.cmp .ne (.call 8 (.cons (.tup (.cons (.tup (.cons (.str [97]) (.cons (.str [98]) .nil))) .nil)) (.cons (.int 1) .nil))) (.tup .nil)) (.cons (.cmp .ne (.call 9 (.cons (.tup (.cons (.tup (.cons (.str [97, 98]) (.cons (.str [97]) .nil))) .nil)) (.cons (.int 3) .nil))) (.str [110, 111, 110, 101])) .nil))) (.cons (.ret (.bl false))
    .nil) .nil)
def d_law : MD := { name := "law", ps := ["script"], N := ["script", "k", "cell", "deal", "long", "due", "proof", "led_to", "one", "number", "word", "some", "junk", "j", "thing", "said", "is_one"], body :=
    (.cons (.for_ (.nm 1) (.rng1 (.int 8)) b_law_1)
    (.cons i_law_5
    (.cons (.ret (.cmp .eq (.call 9 (.cons (.tup (.cons (.tup (.cons (.str [97, 97]) (.cons (.str [97]) .nil))) .nil)) (.cons (.int 3) .nil))) (.str [111, 112, 101, 110])))
    .nil))) }
def S : PIn := { bn := ["len", "tuple", "range", "isinstance", "all", "str", "list", "sorted", "any", "zip", "bool", "int", "min", "set"], gds := [("LETTERS", (.str [97, 98])), ("EVEN", (.tup [(.str [101, 118, 101, 110]), (.str [])]))], fns := [("over_of", 2), ("next_over", 3), ("fitting", 2), ("is_over", 1), ("goals", 2), ("is_closed", 2), ("is_paper", 2), ("reach", 2), ("paper", 2), ("sorted_out", 2), ("_law_cell", 2), ("_law_mix", 3), ("_law_same", 2), ("_law_letters", 2), ("_law_deal", 1), ("_law_texts", 2), ("_law_over", 2), ("_law_odd", 2), ("_law_is_paper", 2), ("_law_led", 3), ("_law_reach", 2), ("law", 1)] }
def defs : List Df := [.code d_over_of, .code d_next_over, .code d_fitting, .code d_is_over, .code d_goals, .code d_is_closed, .code d_is_paper, .code d_reach, .code d_paper, .code d_sorted_out, .code d__law_cell, .code d__law_mix, .code d__law_same, .code d__law_letters, .code d__law_deal, .code d__law_texts, .code d__law_over, .code d__law_odd, .code d__law_is_paper, .code d__law_led, .code d__law_reach, .code d_law]
theorem ck_over_of : defB S d_over_of (topS 3) = true := by decide +kernel
theorem ck_next_over : defB S d_next_over (topS 4) = true := by decide +kernel
theorem ck_fitting : defB S d_fitting (topS 5) = true := by decide +kernel
theorem ck_is_over : defB S d_is_over (topS 7) = true := by decide +kernel
theorem ck_goals : defB S d_goals (topS 8) = true := by decide +kernel
theorem ck_is_closed : defB S d_is_closed (topS 9) = true := by decide +kernel
theorem ck_is_paper : defB S d_is_paper (topS 10) = true := by decide +kernel
theorem ck_reach : defB S d_reach (topS 11) = true := by decide +kernel
theorem ck_paper : defB S d_paper (topS 12) = true := by decide +kernel
theorem ck_sorted_out : defB S d_sorted_out (topS 13) = true := by decide +kernel
theorem ck__law_cell : defB S d__law_cell (topS 15) = true := by decide +kernel
theorem ck__law_mix : defB S d__law_mix (topS 16) = true := by decide +kernel
theorem ck__law_same : defB S d__law_same (topS 17) = true := by decide +kernel
theorem ck__law_letters : defB S d__law_letters (topS 18) = true := by decide +kernel
theorem ck__law_deal : defB S d__law_deal (topS 19) = true := by decide +kernel
theorem ck__law_texts : defB S d__law_texts (topS 20) = true := by decide +kernel
theorem ck__law_over : defB S d__law_over (topS 21) = true := by decide +kernel
theorem ck__law_odd : defB S d__law_odd (topS 22) = true := by decide +kernel
theorem ck__law_is_paper : defB S d__law_is_paper (topS 23) = true := by decide +kernel
theorem ck__law_led : defB S d__law_led (topS 24) = true := by decide +kernel
theorem ck__law_reach : defB S d__law_reach (topS 25) = true := by decide +kernel
theorem ck_law : defB S d_law (topS 26) = true := by decide +kernel
theorem hS : S.fns = defs.map Df.sig := rfl
end Lw
namespace Lw
open PySem PySem.Spec L2 DL
theorem un_over_of {n : Nat} {a0 a1 : D} : Gn S defs (n + 1) 0 [a0, a1] = (exs S (Gn S defs n) d_over_of.body [.d a0, .d a1]).bind finR := Gn_code rfl rfl rfl
theorem un_next_over {n : Nat} {a0 a1 a2 : D} : Gn S defs (n + 1) 1 [a0, a1, a2] = (exs S (Gn S defs n) d_next_over.body [.d a0, .d a1, .d a2, .no, .no]).bind finR := Gn_code rfl rfl rfl
theorem un_fitting {n : Nat} {a0 a1 : D} : Gn S defs (n + 1) 2 [a0, a1] = (exs S (Gn S defs n) d_fitting.body [.d a0, .d a1, .no]).bind finR := Gn_code rfl rfl rfl
theorem un_is_over {n : Nat} {a0 : D} : Gn S defs (n + 1) 3 [a0] = (exs S (Gn S defs n) d_is_over.body [.d a0, .no, .no]).bind finR := Gn_code rfl rfl rfl
theorem un_goals {n : Nat} {a0 a1 : D} : Gn S defs (n + 1) 4 [a0, a1] = (exs S (Gn S defs n) d_goals.body [.d a0, .d a1, .no]).bind finR := Gn_code rfl rfl rfl
theorem un_is_closed {n : Nat} {a0 a1 : D} : Gn S defs (n + 1) 5 [a0, a1] = (exs S (Gn S defs n) d_is_closed.body [.d a0, .d a1, .no, .no]).bind finR := Gn_code rfl rfl rfl
theorem un_is_paper {n : Nat} {a0 a1 : D} : Gn S defs (n + 1) 6 [a0, a1] = (exs S (Gn S defs n) d_is_paper.body [.d a0, .d a1, .no, .no]).bind finR := Gn_code rfl rfl rfl
theorem un_reach {n : Nat} {a0 a1 : D} : Gn S defs (n + 1) 7 [a0, a1] = (exs S (Gn S defs n) d_reach.body [.d a0, .d a1, .no, .no, .no]).bind finR := Gn_code rfl rfl rfl
theorem un_paper {n : Nat} {a0 a1 : D} : Gn S defs (n + 1) 8 [a0, a1] = (exs S (Gn S defs n) d_paper.body [.d a0, .d a1, .no]).bind finR := Gn_code rfl rfl rfl
theorem un_sorted_out {n : Nat} {a0 a1 : D} : Gn S defs (n + 1) 9 [a0, a1] = (exs S (Gn S defs n) d_sorted_out.body [.d a0, .d a1, .no, .no]).bind finR := Gn_code rfl rfl rfl
theorem un__law_cell {n : Nat} {a0 a1 : D} : Gn S defs (n + 1) 10 [a0, a1] = (exs S (Gn S defs n) d__law_cell.body [.d a0, .d a1]).bind finR := Gn_code rfl rfl rfl
theorem un__law_mix {n : Nat} {a0 a1 a2 : D} : Gn S defs (n + 1) 11 [a0, a1, a2] = (exs S (Gn S defs n) d__law_mix.body [.d a0, .d a1, .d a2, .no]).bind finR := Gn_code rfl rfl rfl
theorem un__law_same {n : Nat} {a0 a1 : D} : Gn S defs (n + 1) 12 [a0, a1] = (exs S (Gn S defs n) d__law_same.body [.d a0, .d a1, .no, .no]).bind finR := Gn_code rfl rfl rfl
theorem un__law_letters {n : Nat} {a0 a1 : D} : Gn S defs (n + 1) 13 [a0, a1] = (exs S (Gn S defs n) d__law_letters.body [.d a0, .d a1, .no]).bind finR := Gn_code rfl rfl rfl
theorem un__law_deal {n : Nat} {a0 : D} : Gn S defs (n + 1) 14 [a0] = (exs S (Gn S defs n) d__law_deal.body [.d a0, .no, .no, .no, .no, .no, .no]).bind finR := Gn_code rfl rfl rfl
theorem un__law_texts {n : Nat} {a0 a1 : D} : Gn S defs (n + 1) 15 [a0, a1] = (exs S (Gn S defs n) d__law_texts.body [.d a0, .d a1, .no, .no, .no]).bind finR := Gn_code rfl rfl rfl
theorem un__law_over {n : Nat} {a0 a1 : D} : Gn S defs (n + 1) 16 [a0, a1] = (exs S (Gn S defs n) d__law_over.body [.d a0, .d a1, .no, .no, .no]).bind finR := Gn_code rfl rfl rfl
theorem un__law_odd {n : Nat} {a0 a1 : D} : Gn S defs (n + 1) 17 [a0, a1] = (exs S (Gn S defs n) d__law_odd.body [.d a0, .d a1, .no, .no]).bind finR := Gn_code rfl rfl rfl
theorem un__law_is_paper {n : Nat} {a0 a1 : D} : Gn S defs (n + 1) 18 [a0, a1] = (exs S (Gn S defs n) d__law_is_paper.body [.d a0, .d a1, .no, .no, .no, .no]).bind finR := Gn_code rfl rfl rfl
theorem un__law_led {n : Nat} {a0 a1 a2 : D} : Gn S defs (n + 1) 19 [a0, a1, a2] = (exs S (Gn S defs n) d__law_led.body [.d a0, .d a1, .d a2, .no, .no]).bind finR := Gn_code rfl rfl rfl
theorem un__law_reach {n : Nat} {a0 a1 : D} : Gn S defs (n + 1) 20 [a0, a1] = (exs S (Gn S defs n) d__law_reach.body [.d a0, .d a1, .no, .no, .no, .no, .no, .no]).bind finR := Gn_code rfl rfl rfl
theorem un_law {n : Nat} {a0 : D} : Gn S defs (n + 1) 21 [a0] = (exs S (Gn S defs n) d_law.body [.d a0, .no, .no, .no, .no, .no, .no, .no, .no, .no, .no, .no, .no, .no, .no, .no, .no]).bind finR := Gn_code rfl rfl rfl
theorem glo_LETTERS {ρ : En} : lkG S 0 ρ = some (.str [97, 98]) := (rfl)
theorem glo_EVEN {ρ : En} : lkG S 1 ρ = some (.tup [(.str [101, 118, 101, 110]), (.str [])]) := (rfl)
/-! cells, mixes, letters, deals -/
def mixF (cell prime many : Int) : Int := (cell * 48271 % prime) * (cell * 48271 % prime + 7) % prime % many
theorem mixF_lt {cell prime many : Int} (hm : 0 < many) : 0 ≤ mixF cell prime many ∧ mixF cell prime many < many := ⟨Int.emod_nonneg _ (by omega), Int.emod_lt_of_pos _ hm⟩
theorem G_mix (k : Nat) {cell prime many : Int} (hp : 0 < prime) (hp2 : prime < 100000) (hm : 0 < many) : Gn S defs (k + 1) 11 [.int cell, .int prime, .int many] = some (.int (mixF cell prime many)) := by
  rw [un__law_mix]
  have h1 : 0 ≤ cell * 48271 % prime := Int.emod_nonneg _ (by omega)
  have h2 : cell * 48271 % prime < prime := Int.emod_lt_of_pos _ hp
  simp only [d__law_mix, EVa, glo_LETTERS, glo_EVEN, mul_r (show -(2 ^ 64) < (48271 : Int) ∧ (48271 : Int) < 2 ^ 64 by omega), DL.mod_int hp, DL.mod_int hm, mul_l (show -(2 ^ 64) < cell * 48271 % prime ∧ cell * 48271 % prime < 2 ^ 64 by omega)]
  rfl
def cellF (ns : List Int) (k : Nat) : Int := ns[k]?.getD 0
theorem G_cell (k : Nat) {ns : List Int} {j : Nat} : Gn S defs (k + 1) 10 [.scr ns, .int j] = some (.int (cellF ns j)) := by
  rw [un__law_cell]
  simp only [d__law_cell, EVa, glo_LETTERS, glo_EVEN]
  by_cases h : j < ns.length
  · have h' : ((j : Nat) : Int) < (ns.length : Nat) := by omega
    simp only [decide_eq_true h', EVa, glo_LETTERS, glo_EVEN, atI_nat', List.getElem?_eq_getElem h]
    unfold cellF
    rw [List.getElem?_eq_getElem h]
    rfl
  · have h' : ¬ ((j : Nat) : Int) < (ns.length : Nat) := by omega
    simp only [decide_eq_false h', EVa, glo_LETTERS, glo_EVEN]
    unfold cellF
    rw [List.getElem?_eq_none (by omega)]
    rfl
abbrev Word := List Nat
abbrev Deal := List (Word × Word)
def GoodW (w : Word) : Prop := 1 ≤ w.length ∧ w.length ≤ 3 ∧ ∀ c ∈ w, c = 97 ∨ c = 98
def GoodD (d : Deal) : Prop := 1 ≤ d.length ∧ d.length ≤ 4 ∧ ∀ s ∈ d, GoodW s.1 ∧ GoodW s.2
def encS (s : Word × Word) : D := .tup [.str s.1, .str s.2]
def encD (d : Deal) : D := .tup (d.map encS)
def lettF (cell : Int) (j : Nat) : Nat := if mixF (cell + 7 * j) 9973 2 = 0 then 97 else 98
theorem G_letters (k : Nat) {cell : Int} {m : Nat} (hm : m ≤ 1000) : Gn S defs (k + 2) 13 [.int cell, .int m] = some (.str ((List.range m).map (lettF cell))) := by
  rw [un__law_letters]
  simp only [d__law_letters, EVa, glo_LETTERS, glo_EVEN]
  rw [rng1K_of (by omega), Int.toNat_natCast]
  simp only [EVa, glo_LETTERS, glo_EVEN]
  rw [rngD_map, compK_all (e := fun (i : Nat) => D.int (0 + (i : Nat))) (g := fun i => D.str [lettF cell i]) (by simp; omega) (fun x hx => ⟨_, asg_nm, evC_none, ?_⟩)]
  · simp only [EVa, glo_LETTERS, glo_EVEN]
    have e : (List.range m).map (fun i => D.str [lettF cell i]) = (((List.range m).map fun i => [lettF cell i])).map D.str := by rw [List.map_map]; rfl
    rw [e, join_strs (by
      have : ∀ n : Nat, ((List.range n).map fun i => [lettF cell i]).map List.length = List.replicate n 1 := fun n => by
        apply List.ext_getElem
        · simp
        · intro i h1 h2
          simp
      rw [this]
      simp
      omega)]
    simp only [EVa, glo_LETTERS, glo_EVEN]
    rw [joinL_nil]
    congr 2
    generalize List.range m = xs
    induction xs with
    | nil => rfl
    | cons x xs ih => simp [ih]
  · simp only [EVa, glo_LETTERS, glo_EVEN]
    rw [mul_l (show -(2 ^ 64) < (7 : Int) ∧ (7 : Int) < 2 ^ 64 by omega)]
    simp only [EVa, glo_LETTERS, glo_EVEN]
    rw [G_mix k (by omega) (by omega) (by omega)]
    simp only [EVa, glo_LETTERS, glo_EVEN]
    rw [idx_str (by decide)]
    have hz := mixF_lt (cell := cell + 7 * (0 + (x : Int))) (prime := 9973) (many := 2) (by omega)
    have e0 : (0 : Int) + (x : Int) = x := by omega
    rw [e0] at hz ⊢
    unfold lettF
    by_cases h : mixF (cell + 7 * (x : Int)) 9973 2 = 0
    · rw [h]
      rfl
    · have : mixF (cell + 7 * (x : Int)) 9973 2 = 1 := by omega
      rw [this]
      rfl
theorem GoodW.clean {w : Word} (h : GoodW w) {n : Nat} : gdp n (.str w) = true := clean_str fun c hc => by rcases h.2.2 c hc with z | z <;> omega
theorem good_letters {cell : Int} {m : Nat} (h1 : 1 ≤ m) (h2 : m ≤ 3) : GoodW ((List.range m).map (lettF cell)) := by
  refine ⟨by simp; omega, by simp; omega, fun c hc => ?_⟩
  obtain ⟨i, _, rfl⟩ := List.mem_map.mp hc
  unfold lettF
  split
  · exact .inl rfl
  · exact .inr rfl
theorem good_take {a b : Word} (ha : GoodW a) (hb : GoodW b) : GoodW ((a ++ b).take 3) := by
  obtain ⟨a1, a2, a3⟩ := ha
  obtain ⟨b1, b2, b3⟩ := hb
  refine ⟨by simp; omega, by simp; omega, fun c hc => ?_⟩
  rcases List.mem_append.mp (List.mem_of_mem_take hc) with z | z
  · exact a3 c z
  · exact b3 c z
theorem good_drop {a b : Word} (ha : GoodW a) (hb : GoodW b) : GoodW ((a ++ b).drop ((a ++ b).length - 3)) := by
  obtain ⟨a1, a2, a3⟩ := ha
  obtain ⟨b1, b2, b3⟩ := hb
  refine ⟨by simp; omega, by simp; omega, fun c hc => ?_⟩
  rcases List.mem_append.mp (List.mem_of_mem_drop hc) with z | z
  · exact a3 c z
  · exact b3 c z
theorem in34 {w : Int} : inD (.int w) (.tup [.int 3, .int 4]) = some (.bl (decide (w = 3 ∨ w = 4))) := by
  rw [in_tup (n := 1) (m := 2) gdp_int (clean_tup fun x hx => by simp only [List.mem_cons, List.not_mem_nil, or_false] at hx; rcases hx with rfl | rfl <;> exact gdp_int) (by omega) (by omega)]
  simp only [List.any_cons, List.any_nil, deq_int, Bool.or_false]
  congr 2
  rw [Bool.eq_iff_iff]
  simp only [Bool.or_eq_true, decide_eq_true_eq]
  omega
theorem cut3 (l : List Nat) : cut l none (some (3 : Int)) = l.take 3 := cut_to l 3
theorem cutm3 (l : List Nat) : cut l (some (-(3 : Int))) none = l.drop (l.length - 3) := cut_last l 3 (by omega)
theorem deal_turn (k : Nat) {cell : Int} {ss : List D} {s3 s4 s5 s6 : Sl} {x : Int} (hl : ss.length ≤ 4) : ∃ (u v : Word) (t3 t4 t5 t6 : Sl), GoodW u ∧ GoodW v ∧
    exs S (Gn S defs (k + 2)) b__law_deal_1 [.d (.int cell), .l ss, .d (.int x), s3, s4, s5, s6] = some (.nx [.d (.int cell), .l (ss ++ [.tup [.str u, .str v]]), .d (.int x), t3, t4, t5, t6]) := by
  simp only [b__law_deal_1, EVa, glo_LETTERS, glo_EVEN]
  rw [mul_l (show -(2 ^ 64) < (31 : Int) ∧ (31 : Int) < 2 ^ 64 by omega)]
  simp only [EVa, glo_LETTERS, glo_EVEN]
  obtain ⟨seed, hseed⟩ : ∃ seed : Int, seed = cell + 31 * x := ⟨_, rfl⟩
  rw [← hseed]
  have m1 := mixF_lt (cell := seed) (prime := 9949) (many := 3) (by omega)
  have m2 := mixF_lt (cell := seed) (prime := 9941) (many := 3) (by omega)
  obtain ⟨n1, hn1⟩ : ∃ n : Nat, (n : Int) = 1 + mixF seed 9949 3 := ⟨(1 + mixF seed 9949 3).toNat, by omega⟩
  obtain ⟨n2, hn2⟩ : ∃ n : Nat, (n : Int) = 1 + mixF seed 9941 3 := ⟨(1 + mixF seed 9941 3).toNat, by omega⟩
  simp only [G_mix (k + 1) (show (0 : Int) < 9949 by omega) (by omega) (show (0 : Int) < 3 by omega), G_mix (k + 1) (show (0 : Int) < 9941 by omega) (by omega) (show (0 : Int) < 3 by omega), G_mix (k + 1) (show (0 : Int) < 9931 by omega) (by omega) (show (0 : Int) < 8 by omega),
    ← hn1, ← hn2, G_letters k (show n1 ≤ 1000 by omega), G_letters k (show n2 ≤ 1000 by omega), EVa, glo_LETTERS, glo_EVEN]
  have g1 := good_letters (cell := seed) (m := n1) (by omega) (by omega)
  have g2 := good_letters (cell := seed + 3) (m := n2) (by omega) (by omega)
  generalize (List.range n1).map (lettF seed) = a at g1 ⊢
  generalize (List.range n2).map (lettF (seed + 3)) = b at g2 ⊢
  generalize mixF seed 9931 8 = way
  have a1 := g1.2.1
  have b1 := g2.2.1
  have gt := good_take g1 g2
  have gd := good_drop g1 g2
  have p2 : ∀ u v : Word, tupK [.str u, .str v] = some (.tup [.str u, .str v]) := fun u v => tupK_2
  have ap : ∀ (ρ : En) (d : D), appK 1 ρ (some (.l ss)) d = some (.nx (ρ.set 1 (.l (ss ++ [d])))) := fun ρ d => appK_of (by omega)
  by_cases h1 : way < 3
  · have h2 : ¬ (way = 3 ∨ way = 4) := by omega
    have h3 : ¬ way = 5 := by omega
    simp only [decide_eq_true h1, EVa, glo_LETTERS, glo_EVEN, add_str (show a.length + b.length ≤ 16777216 by omega), slc_str (show (a ++ b).length ≤ 16777216 by simp; omega), cut3, decide_eq_false h2, in34, DL.eq_int, decide_eq_false h3, DL.mod_int (show (0 : Int) < 2 by omega), p2]
    by_cases h4 : cell % 2 = 0
    · simp only [decide_eq_true h4, EVa, glo_LETTERS, glo_EVEN, p2, ap]
      exact ⟨_, _, _, _, _, _, g1, gt, rfl⟩
    · simp only [decide_eq_false h4, EVa, glo_LETTERS, glo_EVEN, p2, ap]
      exact ⟨_, _, _, _, _, _, gt, g1, rfl⟩
  · by_cases h2 : way = 3 ∨ way = 4
    · have h3 : ¬ way = 5 := by omega
      simp only [decide_eq_false h1, EVa, glo_LETTERS, glo_EVEN, add_str (show a.length + b.length ≤ 16777216 by omega), slc_str (show (a ++ b).length ≤ 16777216 by simp; omega), cutm3, decide_eq_true h2, in34, DL.eq_int, decide_eq_false h3, DL.mod_int (show (0 : Int) < 2 by omega), p2]
      by_cases h4 : cell % 2 = 0
      · simp only [decide_eq_true h4, EVa, glo_LETTERS, glo_EVEN, p2, ap]
        exact ⟨_, _, _, _, _, _, gd, g2, rfl⟩
      · simp only [decide_eq_false h4, EVa, glo_LETTERS, glo_EVEN, p2, ap]
        exact ⟨_, _, _, _, _, _, g2, gd, rfl⟩
    · by_cases h3 : way = 5
      · simp only [decide_eq_false h1, EVa, glo_LETTERS, glo_EVEN, decide_eq_false h2, in34, DL.eq_int, decide_eq_true h3, DL.mod_int (show (0 : Int) < 2 by omega), p2]
        by_cases h4 : cell % 2 = 0
        · simp only [decide_eq_true h4, EVa, glo_LETTERS, glo_EVEN, p2, ap]
          exact ⟨_, _, _, _, _, _, g2, g2, rfl⟩
        · simp only [decide_eq_false h4, EVa, glo_LETTERS, glo_EVEN, p2, ap]
          exact ⟨_, _, _, _, _, _, g2, g2, rfl⟩
      · simp only [decide_eq_false h1, EVa, glo_LETTERS, glo_EVEN, decide_eq_false h2, in34, DL.eq_int, decide_eq_false h3, DL.mod_int (show (0 : Int) < 2 by omega), p2]
        by_cases h4 : cell % 2 = 0
        · simp only [decide_eq_true h4, EVa, glo_LETTERS, glo_EVEN, p2, ap]
          exact ⟨_, _, _, _, _, _, g1, g2, rfl⟩
        · simp only [decide_eq_false h4, EVa, glo_LETTERS, glo_EVEN, p2, ap]
          exact ⟨_, _, _, _, _, _, g2, g1, rfl⟩
theorem G_deal (k : Nat) (cell : Int) : ∃ d, GoodD d ∧ Gn S defs (k + 3) 14 [.int cell] = some (encD d) := by
  rw [un__law_deal]
  simp only [d__law_deal, EVa, glo_LETTERS, glo_EVEN]
  rw [G_mix (k + 1) (by omega) (by omega) (by omega)]
  simp only [EVa, glo_LETTERS, glo_EVEN]
  have hm := mixF_lt (cell := cell) (prime := 9967) (many := 4) (by omega)
  rw [rng1K_of (by omega)]
  simp only [EVa, glo_LETTERS, glo_EVEN]
  obtain ⟨n, hn⟩ : ∃ n : Nat, n = (1 + mixF cell 9967 4).toNat := ⟨_, rfl⟩
  have hn1 : 1 ≤ n ∧ n ≤ 4 := by omega
  rw [← hn, rngD_map]
  obtain ⟨ρ', h1, h2⟩ := forK_inv (t := .nm 2) (gb := exs S (Gn S defs (k + 2)) b__law_deal_1) (fun (i : Nat) => D.int (0 + (i : Nat)))
    (fun pre ρ => ∃ (ss : Deal) (s2 s3 s4 s5 s6 : Sl), ss.length = pre.length ∧ (∀ s ∈ ss, GoodW s.1 ∧ GoodW s.2) ∧ ρ = [.d (.int cell), .l (ss.map encS), s2, s3, s4, s5, s6]) (List.range n) [.d (.int cell), .l [], .no, .no, .no, .no, .no]
    ⟨[], _, _, _, _, _, rfl, fun s hs => absurd hs List.not_mem_nil, rfl⟩ (fun pre x post ρ hall hI => by
      obtain ⟨ss, s2, s3, s4, s5, s6, e1, e3, rfl⟩ := hI
      have hlen : n = pre.length + (post.length + 1) := by
        have := congrArg List.length hall
        simp at this
        omega
      obtain ⟨u, v, t3, t4, t5, t6, g1, g2, e⟩ := deal_turn k (cell := cell) (ss := ss.map encS) (s3 := s3) (s4 := s4) (s5 := s5) (s6 := s6) (x := 0 + (x : Nat)) (by rw [List.length_map, e1]; omega)
      refine ⟨_, _, asg_nm, e, ss ++ [(u, v)], _, _, _, _, _, by simp [e1], fun s hs => ?_, by rw [List.map_append]; rfl⟩
      · rcases List.mem_append.mp hs with z | z
        · exact e3 s z
        · rw [List.mem_singleton.mp z]
          exact ⟨g1, g2⟩)
  rw [h1]
  obtain ⟨ss, s2, s3, s4, s5, s6, e1, e3, rfl⟩ := h2
  refine ⟨ss, ⟨?_, ?_, e3⟩, ?_⟩
  · rw [e1]; simp; omega
  · rw [e1]; simp; omega
  · simp only [EVa, glo_LETTERS, glo_EVEN]
    rfl
/-! a thing is the same as itself -/
theorem G_same (k : Nat) : ∀ (n : Nat) (x : D), nic n x = true → Gn S defs (k + n + 1) 12 [x, x] = some (.bl true)
  | n, .non, _ => by
    rw [un__law_same]
    simp only [d__law_same, EVa, glo_LETTERS, glo_EVEN]
  | n, .bl b, _ => by
    rw [un__law_same]
    simp only [d__law_same, EVa, glo_LETTERS, glo_EVEN]
    rw [eq_of (n := 1) (m := 1) gdp_bl gdp_bl (by omega) (by omega), deq_refl 1 _ gdp_bl]
    simp only [EVa, glo_LETTERS, glo_EVEN]
  | n, .int i, _ => by
    rw [un__law_same]
    simp only [d__law_same, EVa, glo_LETTERS, glo_EVEN, decide_true]
  | n, .str l, h => by
    rw [un__law_same]
    simp only [d__law_same, EVa, glo_LETTERS, glo_EVEN]
    have g : gdp 1 (.str l) = true := nic_gdp 1 (.str l) (by rw [nic] at h ⊢; exact h)
    rw [eq_of g g (by omega) (by omega), deq_refl 1 _ g]
    simp only [EVa, glo_LETTERS, glo_EVEN]
  | 0, .tup xs, h => by rw [nic, Bool.and_eq_true] at h; have := h.2; unfold nics at this; cases this
  | n + 1, .tup xs, h => by
    rw [un__law_same]
    rw [nic, nics_all, Bool.and_eq_true, List.all_eq_true, decide_eq_true_eq] at h
    obtain ⟨hl, h⟩ := h
    simp only [d__law_same, EVa, glo_LETTERS, glo_EVEN, Bool.not_true, decide_true, Bool.not_false]
    rw [zipD_self]
    rw [compK_all (e := fun x => D.tup [x, x]) (g := fun _ => D.bl true) (by omega) (fun x hx => ⟨_, by simp only [EVa, glo_LETTERS, glo_EVEN]; rfl, evC_none, by simp only [EVa, glo_LETTERS, glo_EVEN]; exact G_same k n x (h x hx)⟩)]
    simp only [EVa, glo_LETTERS, glo_EVEN]
    have e : xs.map (fun _ => D.bl true) = (xs.map fun _ => true).map D.bl := by rw [List.map_map]; rfl
    rw [e]
    simp only [EVa, glo_LETTERS, glo_EVEN]
    have : (xs.map fun _ => true).all id = true := by rw [List.all_eq_true]; intro b hb; obtain ⟨_, _, rfl⟩ := List.mem_map.mp hb; rfl
    rw [this]
  | n, .lst _, h => by rw [nic] at h; cases h
  | n, .scr _, h => by rw [nic] at h; cases h
  | n, .dic _ _, h => by rw [nic] at h; cases h
  | n, .btp _, h => by rw [nic] at h; cases h
/-! what stands over: the mathematics -/
def Ab (w : Word) : Prop := ∀ c ∈ w, c = 97 ∨ c = 98
theorem Ab.ok {w : Word} (h : Ab w) : ∀ c ∈ w, c < 1114112 := fun c hc => by rcases h c hc with z | z <;> omega
theorem Ab.append {a b : Word} (h : Ab a) (h' : Ab b) : Ab (a ++ b) := fun c hc => (List.mem_append.mp hc).elim (h c) (h' c)
theorem Ab.drop {a : Word} (n : Nat) (h : Ab a) : Ab (a.drop n) := fun c hc => h c (List.mem_of_mem_drop hc)
theorem Ab.take {a : Word} (n : Nat) (h : Ab a) : Ab (a.take n) := fun c hc => h c (List.mem_of_mem_take hc)
theorem Ab.nil : Ab [] := fun c hc => absurd hc List.not_mem_nil
inductive Ov where
  | no | even | ab (r : Word) | be (r : Word)
  deriving DecidableEq
abbrev sEven : Word := [101, 118, 101, 110]
abbrev sAbove : Word := [97, 98, 111, 118, 101]
abbrev sBelow : Word := [98, 101, 108, 111, 119]
def encO : Ov → D
  | .no => .non
  | .even => .tup [.str sEven, .str []]
  | .ab r => .tup [.str sAbove, .str r]
  | .be r => .tup [.str sBelow, .str r]
theorem encO_no : encO .no = .non := rfl
theorem encO_even : encO .even = .tup [.str sEven, .str []] := rfl
theorem encO_ab {r : Word} : encO (.ab r) = .tup [.str sAbove, .str r] := rfl
theorem encO_be {r : Word} : encO (.be r) = .tup [.str sBelow, .str r] := rfl
def ovOf (a b : Word) : Ov := if a = b then .even else if b.isPrefixOf a then .ab (a.drop b.length) else if a.isPrefixOf b then .be (b.drop a.length) else .no
def Ov.rest : Ov → Word
  | .ab r => r
  | .be r => r
  | _ => []
def nextO : Ov → Word → Word → Ov
  | .no, _, _ => .no
  | .even, u, v => ovOf u v
  | .ab r, u, v => ovOf (r ++ u) v
  | .be r, u, v => ovOf u (r ++ v)
theorem isPre {a b : Word} : a.isPrefixOf b = true ↔ a <+: b := List.isPrefixOf_iff_prefix
theorem ovOf_same (a : Word) : ovOf a a = .even := if_pos rfl
theorem ovOf_ab {a b r : Word} (h : a = b ++ r) (hr : r ≠ []) : ovOf a b = .ab r := by
  subst h
  unfold ovOf
  rw [if_neg (fun z => hr (by simpa using z)), if_pos (isPre.mpr (List.prefix_append _ _)), List.drop_left]
theorem ovOf_be {a b r : Word} (h : b = a ++ r) (hr : r ≠ []) : ovOf a b = .be r := by
  subst h
  unfold ovOf
  have h1 : ¬ a = a ++ r := fun z => hr (by simpa using z)
  have h2 : ¬ (a ++ r).isPrefixOf a = true := fun z => by
    obtain ⟨t, ht⟩ := isPre.mp z
    have := congrArg List.length ht
    simp at this
    exact hr this.1
  rw [if_neg h1, if_neg h2, if_pos (isPre.mpr (List.prefix_append _ _)), List.drop_left]
theorem ovOf_no {a b : Word} (h1 : ¬ a <+: b) (h2 : ¬ b <+: a) : ovOf a b = .no := by
  unfold ovOf
  rw [if_neg (fun (z : a = b) => h1 (z ▸ List.prefix_rfl)), if_neg (fun z => h2 (isPre.mp z)), if_neg (fun z => h1 (isPre.mp z))]
theorem ov_cases (a b : Word) : (a = b ∧ ovOf a b = .even) ∨ (∃ r, r ≠ [] ∧ a = b ++ r ∧ ovOf a b = .ab r) ∨ (∃ r, r ≠ [] ∧ b = a ++ r ∧ ovOf a b = .be r) ∨ (¬ a <+: b ∧ ¬ b <+: a ∧ ovOf a b = .no) := by
  by_cases h : a = b
  · exact .inl ⟨h, h ▸ ovOf_same a⟩
  · by_cases h1 : b <+: a
    · obtain ⟨r, hr⟩ := h1
      have hn : r ≠ [] := fun z => h (by rw [← hr, z, List.append_nil])
      exact .inr (.inl ⟨r, hn, hr.symm, ovOf_ab hr.symm hn⟩)
    · by_cases h2 : a <+: b
      · obtain ⟨r, hr⟩ := h2
        have hn : r ≠ [] := fun z => h (by rw [← hr, z, List.append_nil])
        exact .inr (.inr (.inl ⟨r, hn, hr.symm, ovOf_be hr.symm hn⟩))
      · exact .inr (.inr (.inr ⟨h2, h1, ovOf_no h2 h1⟩))
theorem ovOf_cancel (c x y : Word) : ovOf (c ++ x) (c ++ y) = ovOf x y := by
  rcases ov_cases x y with ⟨rfl, e⟩ | ⟨r, hr, rfl, e⟩ | ⟨r, hr, rfl, e⟩ | ⟨h1, h2, e⟩
  · rw [e, ovOf_same]
  · rw [e, ovOf_ab (by rw [List.append_assoc]) hr]
  · rw [e, ovOf_be (by rw [List.append_assoc]) hr]
  · rw [e, ovOf_no (fun z => h1 ((List.prefix_append_right_inj c).mp z)) (fun z => h2 ((List.prefix_append_right_inj c).mp z))]
theorem next_eq (a b u v : Word) : ovOf (a ++ u) (b ++ v) = nextO (ovOf a b) u v := by
  rcases ov_cases a b with ⟨rfl, e⟩ | ⟨r, hr, rfl, e⟩ | ⟨r, hr, rfl, e⟩ | ⟨h1, h2, e⟩
  · rw [e, ovOf_cancel]
    rfl
  · rw [e, List.append_assoc, ovOf_cancel]
    rfl
  · rw [e, List.append_assoc, ovOf_cancel]
    rfl
  · rw [e]
    refine ovOf_no (fun z => ?_) (fun z => ?_)
    · have p1 : a <+: b ++ v := (List.prefix_append a u).trans z
      rcases List.prefix_or_prefix_of_prefix p1 (List.prefix_append b v) with w | w
      · exact h1 w
      · exact h2 w
    · have p1 : b <+: a ++ u := (List.prefix_append b v).trans z
      rcases List.prefix_or_prefix_of_prefix p1 (List.prefix_append a u) with w | w
      · exact h2 w
      · exact h1 w
abbrev Row := List Nat
def encR (r : Row) : D := .tup (r.map fun n => D.int (n : Nat))
def st (d : Deal) (n : Nat) : Word × Word := d.getD n ([], [])
def upT (d : Deal) (r : Row) : Word := (r.map fun n => (st d n).1).flatten
def loT (d : Deal) (r : Row) : Word := (r.map fun n => (st d n).2).flatten
def ovR (d : Deal) (r : Row) : Ov := ovOf (upT d r) (loT d r)
def RowOk (d : Deal) (r : Row) : Prop := ∀ n ∈ r, n < d.length
theorem upT_app (d : Deal) (r q : Row) : upT d (r ++ q) = upT d r ++ upT d q := by unfold upT; rw [List.map_append, List.flatten_append]
theorem loT_app (d : Deal) (r q : Row) : loT d (r ++ q) = loT d r ++ loT d q := by unfold loT; rw [List.map_append, List.flatten_append]
theorem upT_one (d : Deal) (n : Nat) : upT d [n] = (st d n).1 := by simp [upT]
theorem loT_one (d : Deal) (n : Nat) : loT d [n] = (st d n).2 := by simp [loT]
theorem ovR_nil (d : Deal) : ovR d [] = .even := ovOf_same _
theorem ovR_snoc (d : Deal) (r : Row) (n : Nat) : ovR d (r ++ [n]) = nextO (ovR d r) (st d n).1 (st d n).2 := by
  unfold ovR
  rw [upT_app, loT_app, upT_one, loT_one, next_eq]
theorem st_mem {d : Deal} {n : Nat} (h : n < d.length) : st d n = d[n] ∧ st d n ∈ d := by
  unfold st
  rw [List.getD_eq_getElem?_getD, List.getElem?_eq_getElem h]
  exact ⟨rfl, List.getElem_mem h⟩
theorem flat_len {α : Type} (f : α → Word) (m : Nat) : ∀ (r : List α), (∀ x ∈ r, (f x).length ≤ m) → (r.map f).flatten.length ≤ m * r.length
  | [], _ => by simp
  | x :: r, h => by
    have ih := flat_len f m r fun y hy => h y (List.mem_cons_of_mem _ hy)
    have := h x List.mem_cons_self
    rw [List.map_cons, List.flatten_cons, List.length_append, List.length_cons, Nat.mul_add]
    omega
theorem up_len {d : Deal} {r : Row} (hd : GoodD d) (hr : RowOk d r) : (upT d r).length ≤ 3 * r.length := flat_len _ _ _ fun n hn => (hd.2.2 _ (st_mem (hr n hn)).2).1.2.1
theorem lo_len {d : Deal} {r : Row} (hd : GoodD d) (hr : RowOk d r) : (loT d r).length ≤ 3 * r.length := flat_len _ _ _ fun n hn => (hd.2.2 _ (st_mem (hr n hn)).2).2.2.1
theorem flat_ab {α : Type} (f : α → Word) (r : List α) (h : ∀ x ∈ r, Ab (f x)) : Ab (r.map f).flatten := fun c hc => by
  obtain ⟨l, hl, hcl⟩ := List.mem_flatten.mp hc
  obtain ⟨x, hx, rfl⟩ := List.mem_map.mp hl
  exact h x hx c hcl
theorem up_ab {d : Deal} {r : Row} (hd : GoodD d) (hr : RowOk d r) : Ab (upT d r) := flat_ab _ _ fun n hn => (hd.2.2 _ (st_mem (hr n hn)).2).1.2.2
theorem lo_ab {d : Deal} {r : Row} (hd : GoodD d) (hr : RowOk d r) : Ab (loT d r) := flat_ab _ _ fun n hn => (hd.2.2 _ (st_mem (hr n hn)).2).2.2.2
def OvOk (m : Nat) (o : Ov) : Prop := Ab o.rest ∧ o.rest.length ≤ m
theorem ovOf_ok {a b : Word} {m : Nat} (ha : Ab a) (hb : Ab b) (la : a.length ≤ m) (lb : b.length ≤ m) : OvOk m (ovOf a b) := by
  rcases ov_cases a b with ⟨rfl, e⟩ | ⟨r, hr, rfl, e⟩ | ⟨r, hr, rfl, e⟩ | ⟨h1, h2, e⟩
  · rw [e]; exact ⟨Ab.nil, Nat.zero_le _⟩
  · rw [e]
    refine ⟨fun c hc => ha c (List.mem_append_right _ hc), ?_⟩
    show r.length ≤ m
    rw [List.length_append] at la
    omega
  · rw [e]
    refine ⟨fun c hc => hb c (List.mem_append_right _ hc), ?_⟩
    show r.length ≤ m
    rw [List.length_append] at lb
    omega
  · rw [e]; exact ⟨Ab.nil, Nat.zero_le _⟩
theorem ovR_ok {d : Deal} {r : Row} (hd : GoodD d) (hr : RowOk d r) : OvOk (3 * r.length) (ovR d r) := ovOf_ok (up_ab hd hr) (lo_ab hd hr) (up_len hd hr) (lo_len hd hr)
theorem nextO_ok {o : Ov} {m : Nat} {u v : Word} (ho : OvOk m o) (hu : GoodW u) (hv : GoodW v) : OvOk (m + 3) (nextO o u v) := by
  obtain ⟨h1, h2⟩ := ho
  have u2 := hu.2.1
  have v2 := hv.2.1
  cases o with
  | no => exact ⟨Ab.nil, Nat.zero_le _⟩
  | even => exact ovOf_ok hu.2.2 hv.2.2 (by omega) (by omega)
  | ab r =>
    have h2 : r.length ≤ m := h2
    exact ovOf_ok (Ab.append h1 hu.2.2) hv.2.2 (by rw [List.length_append]; omega) (by omega)
  | be r =>
    have h2 : r.length ≤ m := h2
    exact ovOf_ok hu.2.2 (Ab.append h1 hv.2.2) (by omega) (by rw [List.length_append]; omega)
theorem lab_ok : (∀ c ∈ sEven, c < 1114112) ∧ (∀ c ∈ sAbove, c < 1114112) ∧ (∀ c ∈ sBelow, c < 1114112) := by decide
theorem pair_nic {l m : Word} (hl : ∀ c ∈ l, c < 1114112) (hm : ∀ c ∈ m, c < 1114112) {n : Nat} : nic (n + 1) (.tup [.str l, .str m]) = true := nic_tup (by show 2 ≤ 100000; omega) fun x hx => by
  simp only [List.mem_cons, List.not_mem_nil, or_false] at hx
  rcases hx with rfl | rfl
  · exact nic_str hl
  · exact nic_str hm
theorem ov_nic {o : Ov} (h : Ab o.rest) {n : Nat} : nic (n + 1) (encO o) = true := by
  cases o with
  | no => exact nic_non
  | even => exact pair_nic lab_ok.1 (fun c hc => absurd hc List.not_mem_nil)
  | ab r => exact pair_nic lab_ok.2.1 h.ok
  | be r => exact pair_nic lab_ok.2.2 h.ok
theorem row_nic {r : Row} (h : r.length ≤ 100000) {n : Nat} : nic (n + 1) (encR r) = true := nic_tup (by rw [List.length_map]; exact h) fun x hx => by
  obtain ⟨i, _, rfl⟩ := List.mem_map.mp hx
  exact nic_int
theorem deal_nic {d : Deal} (h : GoodD d) {n : Nat} : nic (n + 2) (encD d) = true := nic_tup (by rw [List.length_map]; have := h.2.1; omega) fun x hx => by
  obtain ⟨s, hs, rfl⟩ := List.mem_map.mp hx
  exact pair_nic (Ab.ok (h.2.2 s hs).1.2.2) (Ab.ok (h.2.2 s hs).2.2.2)
theorem encO_ne {o : Ov} : isNon (encO o) = decide (o = .no) := by
  cases o <;> rfl
theorem encO_inj {o p : Ov} : deq (encO o) (encO p) = true ↔ o = p := by
  cases o <;> cases p <;> simp [encO, deq_tup, deqs, deq_str, deq_non, deq_nt, deq_tn]
/-! what stands over: the program's defs -/
theorem at_stone {d : Deal} {n : Nat} (h : n < d.length) : atI (d.map encS) (n : Int) = some (encS (st d n)) := by
  rw [atI_map, atI_nat', List.getElem?_eq_getElem h, (st_mem h).1]
  rfl
theorem at_0 {x : D} {xs : List D} : atI (x :: xs) 0 = some x := atI_nat' (x :: xs) 0
theorem at_1 {x y : D} {xs : List D} : atI (x :: y :: xs) 1 = some y := atI_nat' (x :: y :: xs) 1
theorem G_over_of (k : Nat) {a b : Word} (ha : Ab a) (hb : Ab b) (la : a.length ≤ 1000000) (lb : b.length ≤ 1000000) : Gn S defs (k + 1) 0 [.str a, .str b] = some (encO (ovOf a b)) := by
  rw [un_over_of]
  simp only [d_over_of, EVa, glo_LETTERS, glo_EVEN, DL.eq_str ha.ok hb.ok]
  unfold ovOf
  by_cases h : a = b
  · rw [if_pos h]
    simp only [decide_eq_true h, EVa, glo_LETTERS, glo_EVEN, glo_EVEN]
    rfl
  · rw [if_neg h]
    simp only [decide_eq_false h, EVa, glo_LETTERS, glo_EVEN, starts_eq]
    by_cases h1 : b.isPrefixOf a = true
    · rw [if_pos h1]
      simp only [h1, EVa, glo_LETTERS, glo_EVEN, len_str (show b.length ≤ 16777216 by omega), slc_str (show a.length ≤ 16777216 by omega), cut_from]
      rfl
    · rw [if_neg h1]
      have h1' : b.isPrefixOf a = false := Bool.eq_false_iff.mpr h1
      simp only [h1', EVa, glo_LETTERS, glo_EVEN, starts_eq]
      by_cases h2 : a.isPrefixOf b = true
      · rw [if_pos h2]
        simp only [h2, EVa, glo_LETTERS, glo_EVEN, len_str (show a.length ≤ 16777216 by omega), slc_str (show b.length ≤ 16777216 by omega), cut_from]
        rfl
      · rw [if_neg h2]
        have h2' : a.isPrefixOf b = false := Bool.eq_false_iff.mpr h2
        simp only [h2', EVa, glo_LETTERS, glo_EVEN]
        rfl
theorem G_next (k : Nat) {d : Deal} {o : Ov} {n : Nat} (hd : GoodD d) (hn : n < d.length) (ho : OvOk 900000 o) (hne : o ≠ .no) : Gn S defs (k + 2) 1 [encD d, encO o, .int n] = some (encO (nextO o (st d n).1 (st d n).2)) := by
  rw [un_next_over]
  have g := hd.2.2 _ (st_mem hn).2
  have u2 := g.1.2.1
  have v2 := g.2.2.1
  have hlab : ∀ l : Word, (l = sEven ∨ l = sAbove ∨ l = sBelow) → eqD (.str l) (.str sAbove) = some (.bl (decide (l = sAbove))) := fun l hl => DL.eq_str (by rcases hl with rfl | rfl | rfl; exact lab_ok.1; exact lab_ok.2.1; exact lab_ok.2.2) lab_ok.2.1
  obtain ⟨ho1, ho2⟩ := ho
  simp only [d_next_over, encD, EVa, glo_LETTERS, glo_EVEN, at_stone hn, encS]
  cases o with
  | no => exact absurd rfl hne
  | even =>
    simp only [encO_even, EVa, glo_LETTERS, glo_EVEN, at_0, at_1, hlab sEven (.inl rfl), show decide (sEven = sAbove) = false by decide, add_str (show ([] : Word).length + (st d n).2.length ≤ 16777216 by simp; omega), List.nil_append, G_over_of k g.1.2.2 g.2.2.2 (by omega) (by omega)]
    rfl
  | ab r =>
    have ho2 : r.length ≤ 900000 := ho2
    have ho1 : Ab r := ho1
    simp only [encO_ab, EVa, glo_LETTERS, glo_EVEN, at_0, at_1, hlab sAbove (.inr (.inl rfl)), show decide (sAbove = sAbove) = true by decide, add_str (show r.length + (st d n).1.length ≤ 16777216 by omega), G_over_of k (Ab.append ho1 g.1.2.2) g.2.2.2 (show (r ++ (st d n).1).length ≤ 1000000 by rw [List.length_append]; omega) (show (st d n).2.length ≤ 1000000 by omega)]
    rfl
  | be r =>
    have ho2 : r.length ≤ 900000 := ho2
    have ho1 : Ab r := ho1
    simp only [encO_be, EVa, glo_LETTERS, glo_EVEN, at_0, at_1, hlab sBelow (.inr (.inr rfl)), show decide (sBelow = sAbove) = false by decide, add_str (show r.length + (st d n).2.length ≤ 16777216 by omega), G_over_of k g.1.2.2 (Ab.append ho1 g.2.2.2) (show (st d n).1.length ≤ 1000000 by omega) (show (r ++ (st d n).2).length ≤ 1000000 by rw [List.length_append]; omega)]
    rfl
/-! the stones that fit; the overs of a row -/
theorem rng0 (n : Nat) : rngD 0 n = (List.range n).map fun i : Nat => D.int (i : Nat) := by
  rw [rngD_map]
  congr 1
  funext i
  rw [Int.zero_add]
def fits (d : Deal) (o : Ov) : Row := (List.range d.length).filter fun n => decide (nextO o (st d n).1 (st d n).2 ≠ .no)
theorem fits_ok (d : Deal) (o : Ov) : RowOk d (fits d o) := fun n hn => List.mem_range.mp (List.mem_filter.mp hn).1
theorem fits_len (d : Deal) (o : Ov) : (fits d o).length ≤ d.length := by
  have := List.length_filter_le (fun n => decide (nextO o (st d n).1 (st d n).2 ≠ .no)) (List.range d.length)
  rw [List.length_range] at this
  exact this
theorem mem_fits {d : Deal} {o : Ov} {n : Nat} : n ∈ fits d o ↔ n < d.length ∧ nextO o (st d n).1 (st d n).2 ≠ .no := by
  unfold fits
  rw [List.mem_filter, List.mem_range, decide_eq_true_eq]
theorem G_fitting (k : Nat) {d : Deal} {o : Ov} (hd : GoodD d) (ho : OvOk 900000 o) (hne : o ≠ .no) : Gn S defs (k + 3) 2 [encD d, encO o] = some (encR (fits d o)) := by
  rw [un_fitting]
  have hl := hd.2.1
  simp only [d_fitting, encD, EVa, glo_LETTERS, glo_EVEN, List.length_map]
  rw [rng1K_of (by omega), Int.toNat_natCast, rng0]
  simp only [EVa, glo_LETTERS, glo_EVEN]
  rw [compK_map (e := fun i : Nat => D.int (i : Nat)) (p := fun n => decide (nextO o (st d n).1 (st d n).2 ≠ .no)) (g := fun i : Nat => D.int (i : Nat)) (by simp; omega) (fun n hn => ⟨_, asg_nm, by
      simp only [EVa, glo_LETTERS, glo_EVEN]
      have e := G_next k (n := n) hd (List.mem_range.mp hn) ho hne
      unfold encD at e
      rw [e]
      simp only [EVa, glo_LETTERS, glo_EVEN, encO_ne]
      congr 1
      by_cases z : nextO o (st d n).1 (st d n).2 = .no
      · simp [z]
      · simp [z], fun _ => by simp only [EVa, glo_LETTERS, glo_EVEN]⟩)]
  simp only [EVa, glo_LETTERS, glo_EVEN]
  rfl
def ovWalk (d : Deal) : Ov → Row → List Ov
  | _, [] => []
  | o, n :: r => if nextO o (st d n).1 (st d n).2 = .no then [] else nextO o (st d n).1 (st d n).2 :: ovWalk d (nextO o (st d n).1 (st d n).2) r
def oversL (d : Deal) (r : Row) : List Ov := .even :: ovWalk d .even r
theorem ovWalk_len (d : Deal) : ∀ (r : Row) (o : Ov), (ovWalk d o r).length ≤ r.length
  | [], _ => Nat.le_refl _
  | n :: r, o => by
    unfold ovWalk
    split
    · exact Nat.zero_le _
    · have := ovWalk_len d r (nextO o (st d n).1 (st d n).2)
      simp
      omega
theorem at_last' {acc : List D} {x : D} : atI (acc ++ [x]) (-1) = some x := atI_last acc x
theorem ovR_no_app {d : Deal} {r q : Row} (h : ovR d r = .no) : ovR d (r ++ q) = .no := by
  unfold ovR at h ⊢
  rw [upT_app, loT_app, next_eq, h]
  rfl
theorem walk_get (d : Deal) : ∀ (r pre : Row) (j : Nat), j < (ovWalk d (ovR d pre) r).length → (ovWalk d (ovR d pre) r)[j]? = some (ovR d (pre ++ r.take (j + 1))) ∧ ovR d (pre ++ r.take (j + 1)) ≠ .no
  | [], pre, j, h => by simp [ovWalk] at h
  | n :: r, pre, j, h => by
    have e := ovR_snoc d pre n
    unfold ovWalk at h ⊢
    rw [← e] at h ⊢
    by_cases z : ovR d (pre ++ [n]) = .no
    · rw [if_pos z] at h
      simp at h
    · rw [if_neg z] at h ⊢
      cases j with
      | zero => exact ⟨by simp, by simpa using z⟩
      | succ j =>
        have ih := walk_get d r (pre ++ [n]) j (by simpa using h)
        simpa using ih
theorem walk_stop (d : Deal) : ∀ (r pre : Row), (ovWalk d (ovR d pre) r).length < r.length → ovR d (pre ++ r.take ((ovWalk d (ovR d pre) r).length + 1)) = .no
  | [], pre, h => by simp [ovWalk] at h
  | n :: r, pre, h => by
    have e := ovR_snoc d pre n
    unfold ovWalk at h ⊢
    rw [← e] at h ⊢
    by_cases z : ovR d (pre ++ [n]) = .no
    · rw [if_pos z]
      simpa using z
    · rw [if_neg z] at h ⊢
      have ih := walk_stop d r (pre ++ [n]) (by simpa using h)
      simpa using ih
theorem overs_get {d : Deal} {r : Row} {j : Nat} (h : j < (oversL d r).length) : (oversL d r)[j]? = some (ovR d (r.take j)) ∧ ovR d (r.take j) ≠ .no := by
  unfold oversL at h ⊢
  cases j with
  | zero => exact ⟨by simp [ovR_nil], by simp [ovR_nil]⟩
  | succ j =>
    have := walk_get d r [] j (by rw [ovR_nil]; simpa using h)
    rw [ovR_nil] at this
    simpa using this
theorem overs_stop {d : Deal} {r : Row} {j : Nat} (h : (oversL d r).length ≤ j) (hj : j ≤ r.length) : ovR d (r.take j) = .no := by
  unfold oversL at h
  rw [List.length_cons] at h
  have hs := walk_stop d r [] (by rw [ovR_nil]; omega)
  rw [ovR_nil, List.nil_append] at hs
  have : r.take j = r.take ((ovWalk d .even r).length + 1) ++ (r.take j).drop ((ovWalk d .even r).length + 1) := by
    conv => lhs; rw [← List.take_append_drop ((ovWalk d .even r).length + 1) (r.take j)]
    rw [List.take_take, Nat.min_eq_left h]
  rw [this]
  exact ovR_no_app hs
theorem overs_len {d : Deal} {r : Row} : 1 ≤ (oversL d r).length ∧ (oversL d r).length ≤ r.length + 1 := by
  unfold oversL
  have := ovWalk_len d r .even
  rw [List.length_cons]
  omega
/-! rows in order -/
def lexle : Row → Row → Bool
  | [], _ => true
  | _ :: _, [] => false
  | a :: r, b :: q => decide (a < b) || (decide (a = b) && lexle r q)
theorem lexle_cons {a b : Nat} {r q : Row} : lexle (a :: r) (b :: q) = true ↔ a < b ∨ (a = b ∧ lexle r q = true) := by
  rw [lexle, Bool.or_eq_true, Bool.and_eq_true, decide_eq_true_eq, decide_eq_true_eq]
theorem lexle_refl : ∀ r : Row, lexle r r = true
  | [] => rfl
  | a :: r => lexle_cons.mpr (.inr ⟨rfl, lexle_refl r⟩)
theorem lexle_trans : ∀ {r q p : Row}, lexle r q = true → lexle q p = true → lexle r p = true
  | [], _, _, _, _ => rfl
  | _ :: _, [], _, h, _ => by cases h
  | _ :: _, _ :: _, [], _, h => by cases h
  | a :: r, b :: q, c :: p, h1, h2 => by
    rw [lexle_cons] at h1 h2 ⊢
    rcases h1 with h1 | ⟨h1, h1'⟩
    · rcases h2 with h2 | ⟨h2, h2'⟩
      · exact .inl (by omega)
      · exact .inl (by omega)
    · rcases h2 with h2 | ⟨h2, h2'⟩
      · exact .inl (by omega)
      · exact .inr ⟨by omega, lexle_trans h1' h2'⟩
theorem lexle_anti : ∀ {r q : Row}, lexle r q = true → lexle q r = true → r = q
  | [], [], _, _ => rfl
  | [], _ :: _, _, h => by cases h
  | _ :: _, [], h, _ => by cases h
  | a :: r, b :: q, h1, h2 => by
    rw [lexle_cons] at h1 h2
    rcases h1 with h1 | ⟨rfl, h1⟩
    · rcases h2 with h2 | ⟨rfl, h2⟩ <;> omega
    · rcases h2 with h2 | ⟨_, h2⟩
      · omega
      · rw [lexle_anti h1 h2]
theorem lexle_total : ∀ (r q : Row), lexle r q = true ∨ lexle q r = true
  | [], _ => .inl rfl
  | _ :: _, [] => .inr rfl
  | a :: r, b :: q => by
    rw [lexle_cons, lexle_cons]
    rcases Nat.lt_trichotomy a b with h | h | h
    · exact .inl (.inl h)
    · rcases lexle_total r q with z | z
      · exact .inl (.inr ⟨h, z⟩)
      · exact .inr (.inr ⟨h.symm, z⟩)
    · exact .inr (.inl h)
theorem lexle_app : ∀ {r q : Row} (s : Row), r.length = q.length → lexle r q = true → lexle (r ++ s) (q ++ s) = true
  | [], [], s, _, _ => lexle_refl s
  | [], _ :: _, _, h, _ => by cases h
  | _ :: _, [], _, h, _ => by cases h
  | a :: r, b :: q, s, hl, h => by
    rw [List.cons_append, List.cons_append]
    rw [lexle_cons] at h ⊢
    rcases h with h | ⟨h, h'⟩
    · exact .inl h
    · exact .inr ⟨h, lexle_app s (by simpa using hl) h'⟩
theorem lexle_pre : ∀ (p : Row) {r q : Row}, lexle r q = true → lexle (p ++ r) (p ++ q) = true
  | [], _, _, h => h
  | a :: p, r, q, h => by
    rw [List.cons_append, List.cons_append]
    exact lexle_cons.mpr (.inr ⟨rfl, lexle_pre p h⟩)
def lexlt (r q : Row) : Prop := lexle r q = true ∧ r ≠ q
theorem lexlt_app : ∀ {r q : Row} (s t : Row), r.length = q.length → lexlt r q → lexlt (r ++ s) (q ++ t)
  | [], [], s, t, _, h => absurd rfl h.2
  | [], _ :: _, _, _, h, _ => by cases h
  | _ :: _, [], _, _, h, _ => by cases h
  | a :: r, b :: q, s, t, hl, h => by
    obtain ⟨h1, h2⟩ := h
    rw [lexle_cons] at h1
    rw [List.cons_append, List.cons_append]
    rcases h1 with h1 | ⟨rfl, h1⟩
    · exact ⟨lexle_cons.mpr (.inl h1), fun z => by injection z with z _; omega⟩
    · have := lexlt_app s t (by simpa using hl) (⟨h1, fun z => h2 (by rw [z])⟩ : lexlt r q)
      exact ⟨lexle_cons.mpr (.inr ⟨rfl, this.1⟩), fun z => this.2 (by injection z)⟩
theorem lexlt_one {p : Row} {n m : Nat} (h : n < m) : lexlt (p ++ [n]) (p ++ [m]) :=
  ⟨lexle_pre p (lexle_cons.mpr (.inl h)), fun z => by have := List.append_cancel_left z; injection this with this _; omega⟩
/-! what a row leads to -/
def nx (d : Deal) (o : Ov) (n : Nat) : Ov := nextO o (st d n).1 (st d n).2
def goO (d : Deal) (o : Ov) (r : Row) : Ov := r.foldl (nx d) o
theorem goO_nil (d : Deal) (o : Ov) : goO d o [] = o := rfl
theorem goO_cons (d : Deal) (o : Ov) (n : Nat) (r : Row) : goO d o (n :: r) = goO d (nx d o n) r := rfl
theorem goO_app (d : Deal) (o : Ov) (r q : Row) : goO d o (r ++ q) = goO d (goO d o r) q := List.foldl_append ..
theorem goO_snoc (d : Deal) (o : Ov) (r : Row) (n : Nat) : goO d o (r ++ [n]) = nx d (goO d o r) n := goO_app d o r [n]
theorem nx_no (d : Deal) (n : Nat) : nx d .no n = .no := rfl
theorem goO_no (d : Deal) : ∀ r : Row, goO d .no r = .no
  | [] => rfl
  | n :: r => by rw [goO_cons, nx_no]; exact goO_no d r
theorem ovR_go_pre (d : Deal) : ∀ (r p : Row), ovR d (p ++ r) = goO d (ovR d p) r
  | [], p => by rw [List.append_nil]; rfl
  | n :: r, p => by
    have := ovR_go_pre d r (p ++ [n])
    rw [List.append_assoc] at this
    rw [goO_cons, show p ++ n :: r = p ++ ([n] ++ r) from rfl, this, ovR_snoc]
    rfl
theorem ovR_go (d : Deal) (r : Row) : ovR d r = goO d .even r := by
  have := ovR_go_pre d r []
  rw [ovR_nil] at this
  exact this
theorem RowOk.nil {d : Deal} : RowOk d [] := fun n hn => absurd hn List.not_mem_nil
theorem RowOk.snoc {d : Deal} {r : Row} {n : Nat} (h : RowOk d r) (hn : n < d.length) : RowOk d (r ++ [n]) := fun j hj => (List.mem_append.mp hj).elim (h j) fun z => by rw [List.mem_singleton.mp z]; exact hn
theorem RowOk.app {d : Deal} {r q : Row} (h : RowOk d r) (h' : RowOk d q) : RowOk d (r ++ q) := fun j hj => (List.mem_append.mp hj).elim (h j) (h' j)
theorem RowOk.left {d : Deal} {r q : Row} (h : RowOk d (r ++ q)) : RowOk d r := fun j hj => h j (List.mem_append_left _ hj)
theorem RowOk.right {d : Deal} {r q : Row} (h : RowOk d (r ++ q)) : RowOk d q := fun j hj => h j (List.mem_append_right _ hj)
theorem go_ok {d : Deal} (hd : GoodD d) : ∀ {r : Row} {o : Ov} {m : Nat}, OvOk m o → RowOk d r → OvOk (m + 3 * r.length) (goO d o r)
  | [], _, _, ho, _ => ho
  | n :: r, o, m, ho, hr => by
    have g := hd.2.2 _ (st_mem (hr n List.mem_cons_self)).2
    have := go_ok hd (r := r) (nextO_ok ho g.1 g.2) fun j hj => hr j (List.mem_cons_of_mem _ hj)
    rw [goO_cons, List.length_cons]
    exact ⟨this.1, by have := this.2; unfold nx; omega⟩
theorem mem_fits' {d : Deal} {o : Ov} {n : Nat} : n ∈ fits d o ↔ n < d.length ∧ nx d o n ≠ .no := mem_fits
theorem fits_sorted (d : Deal) (o : Ov) : (fits d o).Pairwise (· < ·) := by
  unfold fits
  exact List.Pairwise.filter _ List.pairwise_lt_range
/-! the least row: level by level -/
abbrev RO := Row × Ov
def addC (sa : List Ov × List RO) (x : RO) : List Ov × List RO := if x.2 ∈ sa.1 then sa else (sa.1 ++ [x.2], sa.2 ++ [x])
def dedup (s : List Ov) (C : List RO) : List Ov × List RO := C.foldl addC (s, [])
theorem fold_acc : ∀ (C : List RO) (s : List Ov) (a b : List RO), (C.foldl addC (s, a ++ b)) = ((C.foldl addC (s, b)).1, a ++ (C.foldl addC (s, b)).2)
  | [], s, a, b => rfl
  | x :: C, s, a, b => by
    rw [List.foldl_cons, List.foldl_cons]
    unfold addC
    by_cases h : x.2 ∈ s
    · rw [if_pos h, if_pos h]
      exact fold_acc C s a b
    · rw [if_neg h, if_neg h]
      show C.foldl addC (s ++ [x.2], (a ++ b) ++ [x]) = _
      rw [List.append_assoc]
      exact fold_acc C (s ++ [x.2]) a (b ++ [x])
theorem dedup_cons_in {x : RO} {C : List RO} {s : List Ov} (h : x.2 ∈ s) : dedup s (x :: C) = dedup s C := by
  unfold dedup
  rw [List.foldl_cons]
  show List.foldl addC (if x.2 ∈ s then (s, []) else _) C = _
  rw [if_pos h]
theorem dedup_cons_out {x : RO} {C : List RO} {s : List Ov} (h : x.2 ∉ s) : dedup s (x :: C) = ((dedup (s ++ [x.2]) C).1, x :: (dedup (s ++ [x.2]) C).2) := by
  unfold dedup
  rw [List.foldl_cons]
  show List.foldl addC (if x.2 ∈ s then (s, []) else (s ++ [x.2], [] ++ [x])) C = _
  rw [if_neg h]
  exact fold_acc C (s ++ [x.2]) [x] []
theorem dedup_sub : ∀ (C : List RO) (s : List Ov), ∀ x ∈ (dedup s C).2, x ∈ C ∧ x.2 ∉ s
  | [], s, x, h => absurd h List.not_mem_nil
  | y :: C, s, x, h => by
    by_cases hy : y.2 ∈ s
    · rw [dedup_cons_in hy] at h
      obtain ⟨h1, h2⟩ := dedup_sub C s x h
      exact ⟨List.mem_cons_of_mem _ h1, h2⟩
    · rw [dedup_cons_out hy] at h
      rcases List.mem_cons.mp h with rfl | h
      · exact ⟨List.mem_cons_self, hy⟩
      · obtain ⟨h1, h2⟩ := dedup_sub C (s ++ [y.2]) x h
        exact ⟨List.mem_cons_of_mem _ h1, fun z => h2 (List.mem_append_left _ z)⟩
theorem dedup_seen : ∀ (C : List RO) (s : List Ov) (p : Ov), p ∈ (dedup s C).1 ↔ p ∈ s ∨ ∃ x ∈ C, x.2 = p
  | [], s, p => ⟨.inl, fun h => h.elim id fun ⟨x, hx, _⟩ => absurd hx List.not_mem_nil⟩
  | y :: C, s, p => by
    by_cases hy : y.2 ∈ s
    · rw [dedup_cons_in hy, dedup_seen C s p]
      constructor
      · rintro (h | ⟨x, hx, e⟩)
        · exact .inl h
        · exact .inr ⟨x, List.mem_cons_of_mem _ hx, e⟩
      · rintro (h | ⟨x, hx, e⟩)
        · exact .inl h
        · rcases List.mem_cons.mp hx with rfl | hx
          · exact .inl (e ▸ hy)
          · exact .inr ⟨x, hx, e⟩
    · rw [dedup_cons_out hy]
      show p ∈ (dedup (s ++ [y.2]) C).1 ↔ _
      rw [dedup_seen C (s ++ [y.2]) p, List.mem_append, List.mem_singleton]
      constructor
      · rintro ((h | h) | ⟨x, hx, e⟩)
        · exact .inl h
        · exact .inr ⟨y, List.mem_cons_self, h.symm⟩
        · exact .inr ⟨x, List.mem_cons_of_mem _ hx, e⟩
      · rintro (h | ⟨x, hx, e⟩)
        · exact .inl (.inl h)
        · rcases List.mem_cons.mp hx with rfl | hx
          · exact .inl (.inr e.symm)
          · exact .inr ⟨x, hx, e⟩
theorem dedup_first : ∀ (C : List RO) (s : List Ov), C.Pairwise (fun x y => lexlt x.1 y.1) → ∀ x ∈ C, x.2 ∉ s → ∃ y ∈ (dedup s C).2, y.2 = x.2 ∧ lexle y.1 x.1 = true
  | [], s, _, x, h, _ => absurd h List.not_mem_nil
  | y :: C, s, hp, x, h, hx => by
    rw [List.pairwise_cons] at hp
    by_cases hy : y.2 ∈ s
    · rw [dedup_cons_in hy]
      rcases List.mem_cons.mp h with rfl | h
      · exact absurd hy hx
      · exact dedup_first C s hp.2 x h hx
    · rw [dedup_cons_out hy]
      rcases List.mem_cons.mp h with rfl | h
      · exact ⟨x, List.mem_cons_self, rfl, lexle_refl _⟩
      · by_cases e : y.2 = x.2
        · exact ⟨y, List.mem_cons_self, e, (hp.1 x h).1⟩
        · obtain ⟨z, hz, h1, h2⟩ := dedup_first C (s ++ [y.2]) hp.2 x h (fun w => (List.mem_append.mp w).elim hx fun w => e (List.mem_singleton.mp w).symm)
          exact ⟨z, List.mem_cons_of_mem _ hz, h1, h2⟩
theorem dedup_sublist : ∀ (C : List RO) (s : List Ov), (dedup s C).2.Sublist C
  | [], s => .slnil
  | y :: C, s => by
    by_cases hy : y.2 ∈ s
    · rw [dedup_cons_in hy]
      exact (dedup_sublist C s).cons y
    · rw [dedup_cons_out hy]
      exact (dedup_sublist C (s ++ [y.2])).cons₂ y
theorem dedup_uniq : ∀ (C : List RO) (s : List Ov), ((dedup s C).2.map (·.2)).Nodup
  | [], s => List.nodup_nil
  | y :: C, s => by
    by_cases hy : y.2 ∈ s
    · rw [dedup_cons_in hy]
      exact dedup_uniq C s
    · rw [dedup_cons_out hy, List.map_cons, List.nodup_cons]
      refine ⟨fun z => ?_, dedup_uniq C _⟩
      obtain ⟨x, hx, e⟩ := List.mem_map.mp z
      exact (dedup_sub C _ x hx).2 (List.mem_append_right _ (List.mem_singleton.mpr e))
def kids (d : Deal) (x : RO) : List RO := (fits d x.2).map fun n => (x.1 ++ [n], nx d x.2 n)
def cands (d : Deal) (L : List RO) : List RO := (L.map (kids d)).flatten
theorem mem_cands {d : Deal} {L : List RO} {y : RO} : y ∈ cands d L ↔ ∃ x ∈ L, ∃ n ∈ fits d x.2, y = (x.1 ++ [n], nx d x.2 n) := by
  unfold cands kids
  simp only [List.mem_flatten, List.mem_map]
  constructor
  · rintro ⟨l, ⟨x, hx, rfl⟩, hy⟩
    obtain ⟨n, hn, rfl⟩ := List.mem_map.mp hy
    exact ⟨x, hx, n, hn, rfl⟩
  · rintro ⟨x, hx, n, hn, rfl⟩
    exact ⟨_, ⟨x, hx, rfl⟩, List.mem_map.mpr ⟨n, hn, rfl⟩⟩
theorem kids_sorted (d : Deal) (x : RO) : (kids d x).Pairwise fun a b => lexlt a.1 b.1 := by
  unfold kids
  rw [List.pairwise_map]
  exact (fits_sorted d x.2).imp fun h => lexlt_one h
theorem cands_sorted {d : Deal} {k : Nat} : ∀ {L : List RO}, (∀ x ∈ L, x.1.length = k) → L.Pairwise (fun x y => lexlt x.1 y.1) → (cands d L).Pairwise fun x y => lexlt x.1 y.1
  | [], _, _ => List.Pairwise.nil
  | x :: L, hl, hp => by
    rw [List.pairwise_cons] at hp
    show (kids d x ++ cands d L).Pairwise _
    rw [List.pairwise_append]
    refine ⟨kids_sorted d x, cands_sorted (fun y hy => hl y (List.mem_cons_of_mem _ hy)) hp.2, fun a ha b hb => ?_⟩
    obtain ⟨n, hn, rfl⟩ := List.mem_map.mp ha
    obtain ⟨y, hy, m, hm, rfl⟩ := mem_cands.mp hb
    exact lexlt_app [n] [m] (by rw [hl x List.mem_cons_self, hl y (List.mem_cons_of_mem _ hy)]) (hp.1 y hy)
theorem kids_len {d : Deal} (hd : GoodD d) (x : RO) : (kids d x).length ≤ 4 := by
  unfold kids
  rw [List.length_map]
  exact Nat.le_trans (fits_len d x.2) hd.2.1
theorem cands_len {d : Deal} (hd : GoodD d) : ∀ L : List RO, (cands d L).length ≤ 4 * L.length
  | [] => Nat.le_refl _
  | x :: L => by
    show (kids d x ++ cands d L).length ≤ _
    have h1 := kids_len hd x
    have h2 := cands_len hd L
    rw [List.length_append, List.length_cons]
    omega
def Come (d : Deal) (o : Ov) (k : Nat) (p : Ov) : Prop := ∃ q, 1 ≤ q.length ∧ q.length < k ∧ RowOk d q ∧ goO d o q = p
structure Lv (d : Deal) (o : Ov) (k : Nat) (s : List Ov) (L : List RO) : Prop where
  ok : ∀ x ∈ L, RowOk d x.1 ∧ x.1.length = k ∧ goO d o x.1 = x.2 ∧ x.2 ≠ .no
  sorted : L.Pairwise fun x y => lexlt x.1 y.1
  seen : ∀ p, p ∈ s ↔ p ≠ .no ∧ Come d o (k + 1) p
  cov : ∀ r, RowOk d r → r.length = k → goO d o r ≠ .no → ¬ Come d o k (goO d o r) → ∃ x ∈ L, x.2 = goO d o r ∧ lexle x.1 r = true
  uniq : (L.map (·.2)).Nodup
theorem Lv.start {d : Deal} {o : Ov} (h : o ≠ .no) : Lv d o 0 [] [([], o)] where
  ok := fun x hx => by rw [List.mem_singleton.mp hx]; exact ⟨RowOk.nil, rfl, rfl, h⟩
  sorted := List.pairwise_singleton _ _
  seen := fun p => ⟨fun h => absurd h List.not_mem_nil, fun ⟨_, q, h1, h2, _⟩ => by omega⟩
  cov := fun r _ hl _ _ => by rw [List.eq_nil_of_length_eq_zero hl]; exact ⟨_, List.mem_singleton_self _, rfl, rfl⟩
  uniq := by simp
theorem Lv.step {d : Deal} {o : Ov} {k : Nat} {s : List Ov} {L : List RO} (h : Lv d o k s L) : Lv d o (k + 1) (dedup s (cands d L)).1 (dedup s (cands d L)).2 := by
  have hC : ∀ y ∈ cands d L, RowOk d y.1 ∧ y.1.length = k + 1 ∧ goO d o y.1 = y.2 ∧ y.2 ≠ .no := fun y hy => by
    obtain ⟨x, hx, n, hn, rfl⟩ := mem_cands.mp hy
    obtain ⟨h1, h2, h3, h4⟩ := h.ok x hx
    obtain ⟨n1, n2⟩ := mem_fits'.mp hn
    exact ⟨h1.snoc n1, by simp [h2], by rw [goO_snoc, h3], n2⟩
  have hs : (cands d L).Pairwise fun x y => lexlt x.1 y.1 := cands_sorted (fun x hx => (h.ok x hx).2.1) h.sorted
  have cov : ∀ r, RowOk d r → r.length = k + 1 → goO d o r ≠ .no → ¬ Come d o (k + 1) (goO d o r) → ∃ x ∈ (dedup s (cands d L)).2, x.2 = goO d o r ∧ lexle x.1 r = true := fun r hr hl hn hc => by
    obtain ⟨q, n, rfl⟩ : ∃ q n, r = q ++ [n] := by
      rcases List.eq_nil_or_concat r with rfl | ⟨q, n, rfl⟩
      · cases hl
      · exact ⟨q, n, by simp⟩
    have hq : q.length = k := by simpa using hl
    rw [goO_snoc] at hn hc ⊢
    have hqn : goO d o q ≠ .no := fun z => hn (by rw [z, nx_no])
    have hcq : ¬ Come d o k (goO d o q) := fun ⟨p, p1, p2, p3, p4⟩ => hc ⟨p ++ [n], by simp, by simp; omega, p3.snoc (hr n (List.mem_append_right _ List.mem_cons_self)), by rw [goO_snoc, p4]⟩
    obtain ⟨x, hx, e1, e2⟩ := h.cov q hr.left hq hqn hcq
    have hmem : (x.1 ++ [n], nx d x.2 n) ∈ cands d L := mem_cands.mpr ⟨x, hx, n, mem_fits'.mpr ⟨hr n (List.mem_append_right _ List.mem_cons_self), by rw [e1]; exact hn⟩, rfl⟩
    have hns : nx d x.2 n ∉ s := fun z => hc (by rw [← e1]; exact ((h.seen _).mp z).2)
    obtain ⟨y, hy, y1, y2⟩ := dedup_first _ s hs _ hmem hns
    exact ⟨y, hy, by rw [y1, ← e1], lexle_trans y2 (lexle_app [n] (by rw [(h.ok x hx).2.1, hq]) e2)⟩
  refine ⟨fun x hx => hC x (dedup_sub _ _ x hx).1, List.Pairwise.sublist (dedup_sublist _ _) hs, fun p => ?_, cov, dedup_uniq _ _⟩
  rw [dedup_seen]
  constructor
  · rintro (z | ⟨x, hx, rfl⟩)
    · obtain ⟨z1, q, z2, z3, z4⟩ := (h.seen p).mp z
      exact ⟨z1, q, z2, by omega, z4⟩
    · obtain ⟨h1, h2, h3, h4⟩ := hC x hx
      exact ⟨h4, x.1, by omega, by omega, h1, h3⟩
  · rintro ⟨hp, q, q1, q2, q3, q4⟩
    by_cases hc : Come d o (k + 1) p
    · exact .inl ((h.seen p).mpr ⟨hp, hc⟩)
    · have hl : q.length = k + 1 := by
        rcases Nat.lt_or_ge q.length (k + 1) with w | w
        · exact absurd ⟨q, q1, w, q3, q4⟩ hc
        · omega
      obtain ⟨x, hx, e1, e2⟩ := cov q q3 hl (by rw [q4]; exact hp) (by rw [q4]; exact hc)
      exact .inr ⟨x, (dedup_sub _ _ x hx).1, by rw [e1, q4]⟩
def isGoal (x : RO) : Bool := !x.1.isEmpty && decide (x.2 = .even)
def bfsR (d : Deal) : Nat → List Ov → List RO → Option Row
  | 0, _, L => (L.find? isGoal).map (·.1)
  | j + 1, s, L => match L.find? isGoal with
    | some x => some x.1
    | none => bfsR d j (dedup s (cands d L)).1 (dedup s (cands d L)).2
def Least (d : Deal) (o : Ov) (m : Nat) : Option Row → Prop
  | none => ∀ r, 1 ≤ r.length → r.length ≤ m → RowOk d r → goO d o r ≠ .even
  | some r => 1 ≤ r.length ∧ r.length ≤ m ∧ RowOk d r ∧ goO d o r = .even ∧ ∀ q, 1 ≤ q.length → q.length ≤ r.length → RowOk d q → goO d o q = .even → q.length = r.length ∧ lexle r q = true
theorem Least.uniq {d : Deal} {o : Ov} {m : Nat} : ∀ {a b : Option Row}, Least d o m a → Least d o m b → a = b
  | none, none, _, _ => rfl
  | none, some r, h, h' => absurd h'.2.2.2.1 (h r h'.1 h'.2.1 h'.2.2.1)
  | some r, none, h', h => absurd h'.2.2.2.1 (h r h'.1 h'.2.1 h'.2.2.1)
  | some r, some q, ⟨a1, a2, a3, a4, a5⟩, ⟨b1, b2, b3, b4, b5⟩ => by
    rcases Nat.le_total r.length q.length with z | z
    · obtain ⟨e1, e2⟩ := b5 r a1 z a3 a4
      obtain ⟨_, e4⟩ := a5 q b1 (by omega) b3 b4
      rw [lexle_anti e4 e2]
    · obtain ⟨e1, e2⟩ := a5 q b1 z b3 b4
      obtain ⟨_, e4⟩ := b5 r a1 (by omega) a3 a4
      rw [lexle_anti e2 e4]
theorem goal_some {d : Deal} {o : Ov} {k : Nat} {s : List Ov} {L : List RO} {x : RO} (h : Lv d o k s L) (hf : L.find? isGoal = some x) (hn : ¬ Come d o k .even) (m : Nat) (hm : k ≤ m) : Least d o m (some x.1) := by
  have hx := List.mem_of_find?_eq_some hf
  have hg := List.find?_some hf
  unfold isGoal at hg
  simp only [Bool.and_eq_true, Bool.not_eq_true', decide_eq_true_eq] at hg
  obtain ⟨h1, h2, h3, h4⟩ := h.ok x hx
  have hk : 1 ≤ x.1.length := by
    cases e : x.1 with
    | nil => rw [e] at hg; cases hg.1
    | cons _ _ => simp
  refine ⟨hk, by omega, h1, by rw [h3, hg.2], fun q q1 q2 q3 q4 => ?_⟩
  have hq : q.length = k := by
    rcases Nat.lt_or_ge q.length k with w | w
    · exact absurd ⟨q, q1, w, q3, q4⟩ hn
    · omega
  refine ⟨by omega, ?_⟩
  obtain ⟨y, hy, e1, e2⟩ := h.cov q q3 hq (by rw [q4]; exact fun z => nomatch z) (by rw [q4]; exact hn)
  have : y = x := by
    obtain ⟨i, hi, ei⟩ := List.mem_iff_getElem.mp hx
    obtain ⟨j, hj, ej⟩ := List.mem_iff_getElem.mp hy
    have hij : i = j := by
      have hnd := h.uniq
      refine (List.getElem_inj (xs := L.map (·.2)) (h₀ := by simpa using hi) (h₁ := by simpa using hj) hnd).mp ?_
      rw [List.getElem_map, List.getElem_map, ei, ej, e1, q4, hg.2]
    subst hij
    rw [← ei, ← ej]
  rw [← this]
  exact e2
theorem goal_none {d : Deal} {o : Ov} {k : Nat} {s : List Ov} {L : List RO} (h : Lv d o k s L) (hf : L.find? isGoal = none) (hn : ¬ Come d o k .even) : ¬ Come d o (k + 1) .even := by
  rintro ⟨q, q1, q2, q3, q4⟩
  have hq : q.length = k := by
    rcases Nat.lt_or_ge q.length k with w | w
    · exact absurd ⟨q, q1, w, q3, q4⟩ hn
    · omega
  obtain ⟨y, hy, e1, e2⟩ := h.cov q q3 hq (by rw [q4]; exact fun z => nomatch z) (by rw [q4]; exact hn)
  have := List.find?_eq_none.mp hf y hy
  apply this
  unfold isGoal
  rw [e1, q4]
  obtain ⟨_, h2, _, _⟩ := h.ok y hy
  cases e : y.1 with
  | nil => rw [e] at h2; simp at h2; omega
  | cons _ _ => rfl
theorem bfsR_least {d : Deal} {o : Ov} : ∀ (j k : Nat) (s : List Ov) (L : List RO), Lv d o k s L → ¬ Come d o k .even → Least d o (k + j) (bfsR d j s L)
  | 0, k, s, L, h, hn => by
    unfold bfsR
    cases hf : L.find? isGoal with
    | some x => exact goal_some h hf hn _ (Nat.le_refl _)
    | none => exact fun r r1 r2 r3 r4 => goal_none h hf hn ⟨r, r1, by omega, r3, r4⟩
  | j + 1, k, s, L, h, hn => by
    unfold bfsR
    cases hf : L.find? isGoal with
    | some x => exact goal_some h hf hn _ (by omega)
    | none =>
      have := bfsR_least j (k + 1) _ _ h.step (goal_none h hf hn)
      rw [show k + 1 + j = k + (j + 1) by omega] at this
      exact this
/-! dicts of overs -/
theorem keyL_two {l m : List Nat} : keyD (.tup [.str l, .str m]) = some [.inr (mkS l), .inr (mkS m)] := rfl
theorem key_O {p : Ov} (h : p ≠ .no) : (keyD (encO p)).isSome = true := by
  cases p with
  | no => exact absurd rfl h
  | _ => rfl
theorem keyD_inj {l m l' m' : List Nat} : keyD (.tup [.str l, .str m]) = keyD (.tup [.str l', .str m']) ↔ l = l' ∧ m = m' := by
  rw [keyL_two, keyL_two]
  constructor
  · intro h
    injection h with h
    injection h with h1 h2
    injection h2 with h2 _
    injection h1 with h1
    injection h2 with h2
    exact ⟨mkS_inj h1, mkS_inj h2⟩
  · rintro ⟨rfl, rfl⟩
    rfl
theorem keyD_pair_ne {l m : List Nat} : ¬ keyD (.tup [.str l, .str m]) = keyD .non := by rw [keyL_two]; exact fun z => nomatch z
theorem kEq_O (p q : Ov) : kEq (encO p) (encO q) = decide (p = q) := by
  unfold kEq
  rw [Bool.eq_iff_iff, decide_eq_true_eq, decide_eq_true_eq]
  have n1 : ¬ sEven = sAbove := by decide
  have n2 : ¬ sEven = sBelow := by decide
  have n3 : ¬ sAbove = sBelow := by decide
  have m1 : ¬ sAbove = sEven := by decide
  have m2 : ¬ sBelow = sEven := by decide
  have m3 : ¬ sBelow = sAbove := by decide
  cases p <;> cases q <;> simp only [encO_no, encO_even, encO_ab, encO_be, keyD_inj, keyD_pair_ne, n1, n2, n3, m1, m2, m3, Ov.ab.injEq, Ov.be.injEq, true_and, false_and, reduceCtorEq, and_self]
  all_goals exact ⟨fun z => absurd z.symm keyD_pair_ne, fun z => z.elim⟩
section
variable {β : Type} (f : β → D)
abbrev encK (x : Ov × β) : D × D := (encO x.1, f x.2)
def putO (kvs : List (Ov × β)) (p : Ov) (v : β) : List (Ov × β) := if (kvs.find? fun x => decide (x.1 = p)).isSome then kvs.map fun x => if x.1 = p then (x.1, v) else x else kvs ++ [(p, v)]
theorem dget_O (kvs : List (Ov × β)) (p : Ov) : dget (kvs.map (encK f)) (encO p) = (kvs.find? fun x => decide (x.1 = p)).map fun x => f x.2 := by
  unfold dget
  rw [List.find?_map]
  have : (fun x : D × D => kEq x.1 (encO p)) ∘ encK f = fun x : Ov × β => decide (x.1 = p) := by
    funext x
    exact kEq_O x.1 p
  rw [this, Option.map_map]
  rfl
theorem dput_O (kvs : List (Ov × β)) (p : Ov) (v : β) : dput (kvs.map (encK f)) (encO p) (f v) = (putO kvs p v).map (encK f) := by
  unfold dput putO
  rw [dget_O, Option.isSome_map]
  split
  · rw [List.map_map, List.map_map]
    apply List.map_congr_left
    intro x _
    show (if kEq (encO x.1) (encO p) = true then (encO x.1, f v) else encK f x) = encK f (if x.1 = p then (x.1, v) else x)
    rw [kEq_O]
    by_cases h : x.1 = p
    · simp [h]
    · simp [h]
  · rw [List.map_append]
    rfl
end
/-! shortest_from -/
def encX (x : RO) : D := .tup [encR x.1, encO x.2]
def seenD (s : List Ov) : List (D × D) := s.map fun p => (encO p, D.bl true)
theorem seen_get (s : List Ov) (p : Ov) : (dget (seenD s) (encO p)).isSome = decide (p ∈ s) := by
  have h := dget_O (β := Unit) (fun _ => D.bl true) (s.map fun p => (p, ())) p
  rw [List.map_map] at h
  have e : seenD s = s.map (encK (fun _ => D.bl true) ∘ fun p => (p, ())) := rfl
  rw [e, h, Option.isSome_map, List.find?_map, Option.isSome_map]
  rw [Bool.eq_iff_iff, List.find?_isSome, decide_eq_true_eq]
  constructor
  · rintro ⟨x, hx, hd⟩
    have : x = p := of_decide_eq_true hd
    exact this ▸ hx
  · intro hx
    exact ⟨p, hx, decide_eq_true rfl⟩
theorem seen_put {s : List Ov} {p : Ov} (h : p ∉ s) : dput (seenD s) (encO p) (.bl true) = seenD (s ++ [p]) := by
  unfold dput
  rw [seen_get, decide_eq_false h, if_neg Bool.false_ne_true]
  unfold seenD
  rw [List.map_append]
  rfl
theorem row_app1 {r : Row} {n : Nat} (h : r.length ≤ 100000) : addD (encR r) (.tup [.int (n : Nat)]) = some (encR (r ++ [n])) := by
  unfold encR
  rw [add_tup (by rw [List.length_map, List.length_singleton]; omega), List.map_append]
  rfl
theorem addC_in {x : RO} {s : List Ov} {L : List RO} (h : x.2 ∈ s) : addC (s, L) x = (s, L) := if_pos h
theorem addC_out {x : RO} {s : List Ov} {L : List RO} (h : x.2 ∉ s) : addC (s, L) x = (s ++ [x.2], L ++ [x]) := if_neg h
theorem eq_even (o : Ov) (h : Ab o.rest) : eqD (encO o) (.tup [.str sEven, .str []]) = some (.bl (decide (o = .even))) := by
  rw [show D.tup [.str sEven, .str []] = encO .even from rfl, eq_of (n := 2) (m := 2) (nic_gdp 2 _ (ov_nic h)) (nic_gdp 2 _ (ov_nic (o := .even) Ab.nil)) (by omega) (by omega)]
  congr 2
  rw [Bool.eq_iff_iff, encO_inj, decide_eq_true_eq]
theorem foldC_len : ∀ (C : List RO) (s : List Ov) (L : List RO), (C.foldl addC (s, L)).1.length ≤ s.length + C.length ∧ (C.foldl addC (s, L)).2.length ≤ L.length + C.length
  | [], s, L => ⟨Nat.le_refl _, Nat.le_refl _⟩
  | x :: C, s, L => by
    rw [List.foldl_cons]
    by_cases h : x.2 ∈ s
    · rw [addC_in h]
      have := foldC_len C s L
      rw [List.length_cons]
      omega
    · rw [addC_out h]
      have := foldC_len C (s ++ [x.2]) (L ++ [x])
      rw [List.length_append, List.length_append, List.length_singleton, List.length_singleton] at this
      rw [List.length_cons]
      omega
/-! shortest_from: the loop -/
theorem cands_cons (d : Deal) (x : RO) (L : List RO) : cands d (x :: L) = kids d x ++ cands d L := rfl
def nextA (d : Deal) (b : Bool) (s : List Ov) (A L : List RO) : List Ov × List RO := if b then (cands d L).foldl addC (s, A) else (s, A)
theorem nextA_cons {d : Deal} {b : Bool} {s : List Ov} {A L : List RO} {x : RO} : nextA d b s A (x :: L) = if b then nextA d b ((kids d x).foldl addC (s, A)).1 ((kids d x).foldl addC (s, A)).2 L else (s, A) := by
  cases b with
  | false => rfl
  | true =>
    show (cands d (x :: L)).foldl addC (s, A) = _
    rw [cands_cons, List.foldl_append]
    rfl
def fuelN : Nat → Nat → Nat
  | 0, l => l + 1
  | j + 1, l => l + fuelN j (4 * l)
theorem fuelN_mono : ∀ (j : Nat) {l l' : Nat}, l ≤ l' → fuelN j l ≤ fuelN j l'
  | 0, l, l', h => Nat.succ_le_succ h
  | j + 1, l, l', h => Nat.add_le_add h (fuelN_mono j (Nat.mul_le_mul_left 4 h))
theorem fuelN_ge : ∀ (j l : Nat), l + 1 ≤ fuelN j l
  | 0, l => Nat.le_refl _
  | j + 1, l => by
    have := fuelN_ge j (4 * l)
    show l + 1 ≤ l + fuelN j (4 * l)
    omega
def encOR : Option Row → D
  | none => .non
  | some r => encR r
def endOf : Option Row → En → Option Res
  | none, ρ => some (.nx ρ)
  | some r, _ => some (.rt (encR r))
theorem fuel9 : ∀ m < 10, fuelN m 1 ≤ 1000000 := by decide +kernel
/-! counts by overs -/
abbrev CK := List (Ov × Int)
def sumF (kvs : CK) (g : Ov → Int) : Int := (kvs.map fun x => x.2 * g x.1).sum
def get0 (kvs : CK) (p : Ov) : Int := ((kvs.find? fun x => decide (x.1 = p)).map (·.2)).getD 0
def keysC (kvs : CK) : List Ov := kvs.map (·.1)
def incr (kvs : CK) (p : Ov) (c : Int) : CK := putO kvs p (get0 kvs p + c)
theorem find_none_iff {kvs : CK} {p : Ov} : (kvs.find? fun x => decide (x.1 = p)) = none ↔ p ∉ keysC kvs := by
  rw [List.find?_eq_none]
  unfold keysC
  constructor
  · intro h z
    obtain ⟨x, hx, e⟩ := List.mem_map.mp z
    exact h x hx (decide_eq_true e)
  · intro h x hx z
    exact h (List.mem_map.mpr ⟨x, hx, of_decide_eq_true z⟩)
theorem incr_new {kvs : CK} {p : Ov} {c : Int} (h : p ∉ keysC kvs) : incr kvs p c = kvs ++ [(p, c)] := by
  have hn := find_none_iff.mpr h
  unfold incr putO get0
  rw [hn]
  show (if false = true then _ else _) = _
  rw [if_neg Bool.false_ne_true]
  simp
theorem keysC_repl (kvs : CK) (p : Ov) (v : Int) : keysC (kvs.map fun x => if x.1 = p then (x.1, v) else x) = keysC kvs := by
  unfold keysC
  rw [List.map_map]
  apply List.map_congr_left
  intro x _
  show (if x.1 = p then (x.1, v) else x).1 = x.1
  split <;> rfl
theorem sum_repl {p : Ov} {c v : Int} {g : Ov → Int} : ∀ {kvs : CK}, (keysC kvs).Nodup → (kvs.find? fun x => decide (x.1 = p)) = some (p, v) → sumF (kvs.map fun x => if x.1 = p then (x.1, v + c) else x) g = sumF kvs g + c * g p
  | [], _, h => by cases h
  | x :: kvs, hn, h => by
    have hn' : x.1 ∉ keysC kvs ∧ (keysC kvs).Nodup := List.nodup_cons.mp hn
    rw [List.map_cons]
    unfold sumF
    rw [List.map_cons, List.map_cons, List.sum_cons, List.sum_cons]
    by_cases e : x.1 = p
    · rw [List.find?_cons_of_pos (p := fun x : Ov × Int => decide (x.1 = p)) (decide_eq_true e)] at h
      cases h
      have hr : (kvs.map fun x => if x.1 = p then (x.1, v + c) else x) = kvs := by
        conv => rhs; rw [← List.map_id kvs]
        apply List.map_congr_left
        intro y hy
        rw [if_neg (fun z => hn'.1 (List.mem_map.mpr ⟨y, hy, z⟩))]
        rfl
      rw [hr, if_pos rfl]
      show (v + c) * g p + _ = v * g p + _ + c * g p
      rw [Int.add_mul]
      omega
    · rw [List.find?_cons_of_neg (by simpa using e)] at h
      have ih := sum_repl (c := c) (g := g) hn'.2 h
      unfold sumF at ih
      rw [ih, if_neg e]
      omega
theorem incr_old {kvs : CK} {p : Ov} {c v : Int} (h : (kvs.find? fun x => decide (x.1 = p)) = some (p, v)) : incr kvs p c = kvs.map fun x => if x.1 = p then (x.1, v + c) else x := by
  unfold incr putO get0
  rw [h]
  rfl
theorem find_key {kvs : CK} {p : Ov} (h : p ∈ keysC kvs) : ∃ v, (kvs.find? fun x => decide (x.1 = p)) = some (p, v) := by
  cases e : kvs.find? fun x => decide (x.1 = p) with
  | none => exact absurd h (find_none_iff.mp e)
  | some x =>
    have : x.1 = p := of_decide_eq_true (List.find?_some (p := fun x : Ov × Int => decide (x.1 = p)) e)
    obtain ⟨a, b⟩ := x
    cases this
    exact ⟨b, rfl⟩
theorem incr_sum {kvs : CK} {p : Ov} {c : Int} {g : Ov → Int} (hn : (keysC kvs).Nodup) : sumF (incr kvs p c) g = sumF kvs g + c * g p := by
  by_cases h : p ∈ keysC kvs
  · obtain ⟨v, e⟩ := find_key h
    rw [incr_old e, sum_repl hn e]
  · rw [incr_new h]
    unfold sumF
    rw [List.map_append, List.sum_append]
    simp
theorem incr_keys {kvs : CK} {p : Ov} {c : Int} (hn : (keysC kvs).Nodup) : (keysC (incr kvs p c)).Nodup ∧ (incr kvs p c).length ≤ kvs.length + 1 ∧ ∀ q ∈ keysC (incr kvs p c), q ∈ keysC kvs ∨ q = p := by
  by_cases h : p ∈ keysC kvs
  · obtain ⟨v, e⟩ := find_key h
    rw [incr_old e, keysC_repl]
    exact ⟨hn, by simp, fun q hq => .inl hq⟩
  · rw [incr_new h]
    unfold keysC at h hn ⊢
    rw [List.map_append]
    refine ⟨?_, by simp, fun q hq => ?_⟩
    · rw [List.nodup_append]
      refine ⟨hn, by simp, fun a ha b hb => ?_⟩
      have : b = p := by simpa using hb
      subst this
      exact fun z => h (z ▸ ha)
    · rcases List.mem_append.mp hq with z | z
      · exact .inl z
      · exact .inr (by simpa using z)
theorem get0_sum {kvs : CK} {p : Ov} (hn : (keysC kvs).Nodup) : get0 kvs p = sumF kvs fun q => if q = p then 1 else 0 := by
  induction kvs with
  | nil => rfl
  | cons x kvs ih =>
    have hn' : x.1 ∉ keysC kvs ∧ (keysC kvs).Nodup := List.nodup_cons.mp hn
    unfold sumF
    rw [List.map_cons, List.sum_cons]
    by_cases e : x.1 = p
    · unfold get0
      rw [List.find?_cons_of_pos (p := fun x : Ov × Int => decide (x.1 = p)) (decide_eq_true e)]
      have : ∀ l : CK, p ∉ keysC l → (l.map fun x => x.2 * (if x.1 = p then 1 else 0)).sum = 0 := by
        intro l
        induction l with
        | nil => intro _; rfl
        | cons y l ih =>
          intro hl
          have h1 : ¬ y.1 = p := fun z => hl (List.mem_map.mpr ⟨y, List.mem_cons_self, z⟩)
          rw [List.map_cons, List.sum_cons, if_neg h1, ih (fun z => hl (List.mem_cons_of_mem _ z))]
          simp
      have h0 := this kvs (e ▸ hn'.1)
      simp only [e, if_true] at h0 ⊢
      rw [h0]
      simp
    · have ih' := ih hn'.2
      unfold get0 at ih' ⊢
      unfold sumF at ih'
      rw [List.find?_cons_of_neg (by simpa using e), ih']
      simp [e]
/-! rows that go on -/
def kidsR (d : Deal) (r : Row) : List Row := (fits d (ovR d r)).map fun n => r ++ [n]
def goesOn (b : Bool) (t : Nat) (o : Ov) : Bool := decide (t = 0) || !decide (o = .even) || !b
def rowsT (d : Deal) (b : Bool) : Nat → List Row
  | 0 => [[]]
  | t + 1 => ((rowsT d b t).map fun r => if goesOn b t (ovR d r) then kidsR d r else []).flatten
def sumK (d : Deal) (p : Ov) (g : Ov → Int) : Int := ((fits d p).map fun n => g (nx d p n)).sum
theorem sum_flat {α : Type} (f : α → List Row) (h : Row → Int) : ∀ l : List α, (((l.map f).flatten).map h).sum = (l.map fun x => ((f x).map h).sum).sum
  | [] => rfl
  | x :: l => by rw [List.map_cons, List.flatten_cons, List.map_append, List.sum_append, List.map_cons, List.sum_cons, sum_flat f h l]
def Rep (d : Deal) (b : Bool) (t : Nat) (cs : CK) : Prop := ∀ g, sumF cs g = ((rowsT d b t).map fun r => g (ovR d r)).sum
theorem rep_step {d : Deal} {b : Bool} {t : Nat} {cs cs' : CK} (h : Rep d b t cs) (h' : ∀ g, sumF cs' g = sumF cs fun p => if goesOn b t p then sumK d p g else 0) : Rep d b (t + 1) cs' := fun g => by
  rw [h' g, h]
  show _ = (((rowsT d b t).map fun r => if goesOn b t (ovR d r) then kidsR d r else []).flatten.map _).sum
  rw [sum_flat]
  congr 1
  apply List.map_congr_left
  intro r _
  split
  · unfold sumK kidsR
    rw [List.map_map]
    congr 1
    apply List.map_congr_left
    intro n _
    show g (nx d (ovR d r) n) = g (ovR d (r ++ [n]))
    rw [ovR_snoc]
    rfl
  · rfl
structure CkOk (d : Deal) (m : Nat) (cs : CK) : Prop where
  nd : (keysC cs).Nodup
  ok : ∀ p ∈ keysC cs, OvOk m p ∧ p ≠ .no
theorem ne_even (o : Ov) (h : Ab o.rest) : neD (encO o) (.tup [.str sEven, .str []]) = some (.bl (!decide (o = .even))) := by
  rw [show D.tup [.str sEven, .str []] = encO .even from rfl, ne_of' (n := 2) (m := 2) (nic_gdp 2 _ (ov_nic h)) (nic_gdp 2 _ (ov_nic (o := .even) Ab.nil)) (by omega) (by omega)]
  congr 3
  rw [Bool.eq_iff_iff, encO_inj, decide_eq_true_eq]
theorem ck_find {cs : CK} (hn : (keysC cs).Nodup) {x : Ov × Int} (hx : x ∈ cs) : (cs.find? fun y => decide (y.1 = x.1)) = some (x.1, x.2) := by
  induction cs with
  | nil => cases hx
  | cons y cs ih =>
    have hn' : y.1 ∉ keysC cs ∧ (keysC cs).Nodup := List.nodup_cons.mp hn
    rcases List.mem_cons.mp hx with rfl | hx
    · rw [List.find?_cons_of_pos (p := fun y : Ov × Int => decide (y.1 = x.1)) (decide_eq_true rfl)]
    · rw [List.find?_cons_of_neg (by
        intro z
        exact hn'.1 (List.mem_map.mpr ⟨x, hx, (of_decide_eq_true z).symm⟩))]
      exact ih hn'.2 hx
def cntR (d : Deal) (b : Bool) (m : Nat) : Nat := ((rowsT d b m).filter fun r => decide (ovR d r = .even)).length
theorem sum_ind {α : Type} (p : α → Bool) : ∀ l : List α, (l.map fun x => if p x = true then (1 : Int) else 0).sum = ((l.filter p).length : Nat)
  | [] => rfl
  | x :: l => by
    rw [List.map_cons, List.sum_cons, sum_ind p l]
    cases h : p x with
    | true => rw [List.filter_cons_of_pos h, List.length_cons, if_pos rfl]; omega
    | false => rw [List.filter_cons_of_neg (by rw [h]; exact Bool.false_ne_true), if_neg Bool.false_ne_true]; omega
/-! the order of rows, as data -/
theorem toPys_nil : toPys [] = [] := by rw [toPys]
theorem toks_row : ∀ (r q : Row), PyProof.Rows.lexLt PyProof.Rows.itemOrd (PySem.W.keyToksAll (toPys (r.map fun n => D.int (n : Nat)))) (PySem.W.keyToksAll (toPys (q.map fun n => D.int (n : Nat)))) = (lexle r q && !decide (r = q))
  | [], [] => by
    rw [List.map_nil, toPys, PySem.W.keyToksAll, PyProof.Rows.lex_self]
    rfl
  | [], b :: q => by
    rw [List.map_nil, toPys, PySem.W.keyToksAll, List.map_cons, toPys, PySem.W.keyToksAll, PyProof.Rows.lex_diff (fun z => by injection z with z; omega)]
    rfl
  | a :: r, [] => by
    rw [List.map_nil, toPys, PySem.W.keyToksAll, List.map_cons, toPys, PySem.W.keyToksAll, PyProof.Rows.lex_diff (fun z => by injection z with z; omega)]
    rfl
  | a :: r, b :: q => by
    rw [List.map_cons, toPys, PySem.W.keyToksAll, List.map_cons, toPys, PySem.W.keyToksAll, PyProof.Rows.lex_self, toPy, toPy, PySem.W.keyToks, PySem.W.keyToks]
    show PyProof.Rows.lexLt PyProof.Rows.itemOrd (Sum.inl (a : Int) :: PySem.W.keyToksAll _) (Sum.inl (b : Int) :: PySem.W.keyToksAll _) = _
    by_cases h : a = b
    · subst h
      rw [PyProof.Rows.lex_self, toks_row r q, lexle]
      simp
    · have hne : (Sum.inl (a : Int) : Int ⊕ List Nat) ≠ Sum.inl (b : Int) := fun z => by injection z with z; omega
      rw [PyProof.Rows.lex_diff hne, lexle]
      show decide ((a : Int) < (b : Int)) = _
      have e1 : decide (a = b) = false := decide_eq_false h
      have e2 : decide (a :: r = b :: q) = false := decide_eq_false fun z => h (by injection z)
      rw [e1, e2, Bool.false_and, Bool.or_false, Bool.not_false, Bool.and_true]
      exact decide_eq_decide.mpr (by omega)
theorem dlt_row (r q : Row) : dlt (encR r) (encR q) = (lexle r q && !decide (r = q)) := by
  unfold dlt PySem.W.dataLt encR
  rw [toPy, toPy, PySem.W.keyToks, PySem.W.keyToks]
  exact toks_row r q
theorem alike_rows : ∀ (r q : Row), PySem.W.alikeAll (toPys (r.map fun n => D.int (n : Nat))) (toPys (q.map fun n => D.int (n : Nat))) = true
  | [], q => by rw [List.map_nil, toPys, PySem.W.alikeAll]
  | a :: r, [] => by rw [List.map_nil, toPys, List.map_cons, toPys, PySem.W.alikeAll]
  | a :: r, b :: q => by
    rw [List.map_cons, toPys, List.map_cons, toPys, PySem.W.alikeAll, alike_rows r q, toPy, toPy, PySem.W.alike]
    rfl
theorem dlk_row (r q : Row) : dlk (encR r) (encR q) = true := by
  unfold dlk encR
  rw [toPy, toPy, PySem.W.alike]
  exact alike_rows r q
theorem seqOk_of {ds : List D} {n : Nat} (h1 : ∀ a ∈ ds, ∀ b ∈ ds, dlk a b = true) (h2 : ∀ a ∈ ds, isNon a = false) (h3 : ∀ a ∈ ds, gdp n a = true) (hn : n ≤ 60) : seqOk ds = true := by
  have hg : gdps (n + 1) ds = true := by rw [gdps_all, List.all_eq_true]; exact h3
  obtain ⟨g1, g2⟩ := gdps_ok (n + 1) ds hg
  unfold seqOk
  simp only [Bool.and_eq_true, List.all_eq_true, decide_eq_true_eq, Bool.not_eq_true']
  exact ⟨⟨⟨h1, h2⟩, by omega⟩, g1⟩
theorem seqOk_rows {rs : List Row} (h : ∀ r ∈ rs, r.length ≤ 100000) : seqOk (rs.map encR) = true := by
  refine seqOk_of (n := 2) (fun a ha b hb => ?_) (fun a ha => ?_) (fun a ha => ?_) (by omega)
  · obtain ⟨r, _, rfl⟩ := List.mem_map.mp ha
    obtain ⟨q, _, rfl⟩ := List.mem_map.mp hb
    exact dlk_row r q
  · obtain ⟨r, _, rfl⟩ := List.mem_map.mp ha
    rfl
  · obtain ⟨r, hr, rfl⟩ := List.mem_map.mp ha
    exact nic_gdp 2 _ (row_nic (h r hr))
def minR : Row → List Row → Row
  | a, [] => a
  | a, y :: l => minR (if (lexle y a && !decide (y = a)) = true then y else a) l
theorem foldl_minR : ∀ (l : List Row) (a : Row), (l.map encR).foldl (fun a y => if dlt y a then y else a) (encR a) = encR (minR a l)
  | [], a => rfl
  | y :: l, a => by
    rw [List.map_cons, List.foldl_cons, dlt_row, minR]
    split
    · exact foldl_minR l y
    · exact foldl_minR l a
theorem minR_spec : ∀ (l : List Row) (a : Row), minR a l ∈ a :: l ∧ ∀ q ∈ a :: l, lexle (minR a l) q = true
  | [], a => ⟨List.mem_cons_self, fun q hq => by rw [List.mem_singleton.mp hq]; exact lexle_refl a⟩
  | y :: l, a => by
    rw [minR]
    by_cases h : (lexle y a && !decide (y = a)) = true
    · rw [if_pos h]
      rw [Bool.and_eq_true] at h
      obtain ⟨h1, h2⟩ := minR_spec l y
      refine ⟨List.mem_cons_of_mem _ h1, fun q hq => ?_⟩
      rcases List.mem_cons.mp hq with rfl | hq
      · exact lexle_trans (h2 y List.mem_cons_self) h.1
      · exact h2 q hq
    · rw [if_neg h]
      obtain ⟨h1, h2⟩ := minR_spec l a
      refine ⟨?_, fun q hq => ?_⟩
      · rcases List.mem_cons.mp h1 with e | e
        · rw [e]; exact List.mem_cons_self
        · exact List.mem_cons_of_mem _ (List.mem_cons_of_mem _ e)
      · rcases List.mem_cons.mp hq with rfl | hq
        · exact h2 _ List.mem_cons_self
        · rcases List.mem_cons.mp hq with rfl | hq
          · refine lexle_trans (h2 a List.mem_cons_self) ?_
            rcases lexle_total a q with z | z
            · exact z
            · by_cases e : q = a
              · rw [e]; exact lexle_refl a
              · exact absurd (by rw [z, decide_eq_false e]; rfl) h
          · exact h2 q (List.mem_cons_of_mem _ hq)
theorem min_rows {a : Row} {l : List Row} (h : ∀ r ∈ a :: l, r.length ≤ 100000) : minY [.lst ((a :: l).map encR)] = some (encR (minR a l)) := by
  show bestL dlt ((a :: l).map encR) = _
  have hs := seqOk_rows h
  rw [List.map_cons] at hs ⊢
  show (if seqOk (encR a :: l.map encR) = true then some ((l.map encR).foldl (fun a y => if dlt y a then y else a) (encR a)) else none) = _
  rw [if_pos hs, foldl_minR]
/-! rows of so many stones -/
theorem rowsT_ok {d : Deal} {b : Bool} : ∀ (t : Nat), ∀ r ∈ rowsT d b t, RowOk d r ∧ r.length = t ∧ ovR d r ≠ .no
  | 0, r, h => by
    rw [List.mem_singleton.mp h]
    exact ⟨RowOk.nil, rfl, by rw [ovR_nil]; exact fun z => nomatch z⟩
  | t + 1, r, h => by
    unfold rowsT at h
    obtain ⟨l, hl, hr⟩ := List.mem_flatten.mp h
    obtain ⟨q, hq, rfl⟩ := List.mem_map.mp hl
    obtain ⟨h1, h2, h3⟩ := rowsT_ok t q hq
    split at hr
    · obtain ⟨n, hn, rfl⟩ := List.mem_map.mp hr
      obtain ⟨n1, n2⟩ := mem_fits'.mp hn
      exact ⟨h1.snoc n1, by simp [h2], by rw [ovR_snoc]; exact n2⟩
    · cases hr
theorem goesOn_f {t : Nat} {o : Ov} : goesOn false t o = true := by unfold goesOn; simp
theorem mem_rowsT {d : Deal} : ∀ (t : Nat) (r : Row), r ∈ rowsT d false t ↔ RowOk d r ∧ r.length = t ∧ ovR d r ≠ .no
  | t, r => by
    refine ⟨rowsT_ok t r, ?_⟩
    induction t generalizing r with
    | zero =>
      rintro ⟨_, h, _⟩
      rw [List.eq_nil_of_length_eq_zero h]
      exact List.mem_singleton_self _
    | succ t ih =>
      rintro ⟨h1, h2, h3⟩
      rcases List.eq_nil_or_concat r with rfl | ⟨q, n, rfl⟩
      · cases h2
      · rw [List.concat_eq_append] at h1 h2 h3 ⊢
        rw [ovR_snoc] at h3
        have hq : q ∈ rowsT d false t := ih q ⟨h1.left, by simpa using h2, fun z => h3 (by rw [z]; rfl)⟩
        unfold rowsT
        refine List.mem_flatten.mpr ⟨_, List.mem_map.mpr ⟨q, hq, rfl⟩, ?_⟩
        rw [if_pos goesOn_f]
        exact List.mem_map.mpr ⟨n, mem_fits'.mpr ⟨h1 n (List.mem_append_right _ List.mem_cons_self), h3⟩, rfl⟩
theorem flat_le {α : Type} (f : α → List Row) (h : ∀ x, (f x).length ≤ 4) : ∀ l : List α, ((l.map f).flatten).length ≤ 4 * l.length
  | [] => Nat.le_refl _
  | x :: l => by
    have := flat_le f h l
    have := h x
    rw [List.map_cons, List.flatten_cons, List.length_append, List.length_cons]
    omega
theorem rowsT_len {d : Deal} (hd : GoodD d) {b : Bool} : ∀ t : Nat, (rowsT d b t).length ≤ 4 ^ t
  | 0 => Nat.le_refl _
  | t + 1 => by
    have h1 := rowsT_len hd (b := b) t
    have h2 := flat_le (fun r => if goesOn b t (ovR d r) then kidsR d r else []) (fun r => by
      split
      · unfold kidsR
        rw [List.length_map]
        exact Nat.le_trans (fits_len d _) hd.2.1
      · exact Nat.zero_le _) (rowsT d b t)
    have h3 : (4 : Nat) ^ (t + 1) = 4 * 4 ^ t := by rw [Nat.pow_succ, Nat.mul_comm]
    show (((rowsT d b t).map fun r => if goesOn b t (ovR d r) then kidsR d r else []).flatten).length ≤ _
    omega
def comT (d : Deal) (m : Nat) : List Row := (rowsT d false m).filter fun r => decide (ovR d r = .even)
theorem mem_comT {d : Deal} {m : Nat} {r : Row} : r ∈ comT d m ↔ RowOk d r ∧ r.length = m ∧ ovR d r = .even := by
  unfold comT
  rw [List.mem_filter, mem_rowsT, decide_eq_true_eq]
  exact ⟨fun h => ⟨h.1.1, h.1.2.1, h.2⟩, fun h => ⟨⟨h.1, h.2.1, by rw [h.2.2]; exact fun z => nomatch z⟩, h.2.2⟩⟩
theorem Least.up {d : Deal} {m : Nat} {r : Row} (h : Least d .even m (some r)) : Least d .even (m + 1) (some r) := ⟨h.1, by have := h.2.1; omega, h.2.2⟩
theorem Least.none_up {d : Deal} {m : Nat} (h : Least d .even m none) (hc : comT d (m + 1) = []) : Least d .even (m + 1) none := fun r r1 r2 r3 r4 => by
  rcases Nat.lt_or_ge r.length (m + 1) with z | z
  · exact h r r1 (by omega) r3 r4
  · have : r ∈ comT d (m + 1) := mem_comT.mpr ⟨r3, by omega, by rw [ovR_go]; exact r4⟩
    rw [hc] at this
    cases this
theorem Least.none_min {d : Deal} {m : Nat} {a : Row} {l : List Row} (h : Least d .even m none) (hc : comT d (m + 1) = a :: l) : Least d .even (m + 1) (some (minR a l)) := by
  obtain ⟨h1, h2⟩ := minR_spec l a
  rw [← hc] at h1 h2
  obtain ⟨q1, q2, q3⟩ := mem_comT.mp h1
  refine ⟨by omega, by omega, q1, by rw [← ovR_go]; exact q3, fun q p1 p2 p3 p4 => ?_⟩
  have hl : q.length = m + 1 := by
    rcases Nat.lt_or_ge q.length (m + 1) with z | z
    · exact absurd p4 (h q p1 (by omega) p3)
    · omega
  exact ⟨by omega, h2 q (mem_comT.mpr ⟨p3, hl, by rw [ovR_go]; exact p4⟩)⟩
/-! the order of data -/
theorem dlt_irrefl (a : D) : dlt a a = false := PyProof.Rows.lex_irrefl _
theorem dlt_trans {a b c : D} (h1 : dlt a b = true) (h2 : dlt b c = true) : dlt a c = true := PyProof.Rows.lex_trans _ _ _ h1 h2
theorem dlt_neg {a b c : D} (h : dlt a c = true) : dlt a b = true ∨ dlt b c = true := PyProof.Rows.lex_negTrans _ _ _ h
theorem dlt_asym {a b : D} (h : dlt a b = true) : dlt b a = false := by
  cases e : dlt b a with
  | false => rfl
  | true =>
    have := dlt_trans h e
    rw [dlt_irrefl] at this
    cases this
theorem dle_eq (a b : D) : PySem.W.dataLe false toPy a b = !dlt b a := rfl
theorem sort_pair (xs : List D) : (xs.mergeSort (PySem.W.dataLe false toPy)).Pairwise fun a b => dlt b a = false := by
  have := List.pairwise_mergeSort (le := PySem.W.dataLe false toPy) (fun a b c h1 h2 => by
    rw [dle_eq, Bool.not_eq_true'] at *
    cases e : dlt c a with
    | false => rfl
    | true =>
      rcases dlt_neg (b := b) e with z | z
      · rw [h2] at z; cases z
      · rw [h1] at z; cases z) (fun a b => by
    rw [dle_eq, dle_eq]
    cases e : dlt b a with
    | false => rfl
    | true => rw [dlt_asym e]; rfl) xs
  exact this.imp fun h => by
    rw [dle_eq, Bool.not_eq_true'] at h
    exact h
theorem rise_uniq {α : Type} {R : α → α → Prop} (irr : ∀ a, ¬ R a a) (tr : ∀ a b c, R a b → R b c → R a c) : ∀ {xs ys : List α}, xs.Pairwise R → ys.Pairwise R → (∀ a, a ∈ xs ↔ a ∈ ys) → xs = ys
  | [], [], _, _, _ => rfl
  | [], y :: ys, _, _, h => absurd ((h y).mpr List.mem_cons_self) List.not_mem_nil
  | x :: xs, [], _, _, h => absurd ((h x).mp List.mem_cons_self) List.not_mem_nil
  | x :: xs, y :: ys, h1, h2, h => by
    rw [List.pairwise_cons] at h1 h2
    have exy : x = y := by
      rcases List.mem_cons.mp ((h x).mp List.mem_cons_self) with e | e
      · exact e
      · rcases List.mem_cons.mp ((h y).mpr List.mem_cons_self) with e' | e'
        · exact e'.symm
        · exact absurd (tr _ _ _ (h1.1 y e') (h2.1 x e)) (irr x)
    subst exy
    rw [rise_uniq irr tr h1.2 h2.2 fun a => ?_]
    constructor
    · intro ha
      rcases List.mem_cons.mp ((h a).mp (List.mem_cons_of_mem _ ha)) with e | e
      · subst e
        exact absurd (h1.1 a ha) (irr a)
      · exact e
    · intro ha
      rcases List.mem_cons.mp ((h a).mpr (List.mem_cons_of_mem _ ha)) with e | e
      · subst e
        exact absurd (h2.1 a ha) (irr a)
      · exact e
/-! overs as pairs -/
def lab : Ov → Word
  | .ab _ => sAbove
  | .be _ => sBelow
  | _ => sEven
theorem enc_pair {o : Ov} (h : o ≠ .no) : encO o = .tup [.str (lab o), .str o.rest] := by
  cases o with
  | no => exact absurd rfl h
  | _ => rfl
theorem toks_pair (l m : Word) : PySem.W.keyToks (toPy (.tup [.str l, .str m])) = [.inl 1, .inr l, .inl 1, .inr m, .inl 0] := by
  rw [toPy, toPys, toPys, toPys, PySem.W.keyToks, PySem.W.keyToksAll, PySem.W.keyToksAll, PySem.W.keyToksAll, toPy, toPy, PySem.W.keyToks, PySem.W.keyToks]
  rfl
theorem olt_total {p q : Ov} (hp : p ≠ .no) (hq : q ≠ .no) (h1 : dlt (encO p) (encO q) = false) (h2 : dlt (encO q) (encO p) = false) : p = q := by
  have := PyProof.Rows.lex_total _ _ h1 h2
  rw [enc_pair hp, enc_pair hq, toks_pair, toks_pair] at this
  injection this with _ this
  injection this with e1 this
  injection this with _ this
  injection this with e2 _
  injection e1 with e1
  injection e2 with e2
  refine encO_inj.mp ?_
  rw [enc_pair hp, enc_pair hq, e1, e2, deq_tup]
  simp [deqs, deq_str]
def olt (p q : Ov) : Prop := dlt (encO p) (encO q) = true
theorem olt_uniq {L M : List Ov} (h1 : L.Pairwise olt) (h2 : M.Pairwise olt) (h : ∀ p, p ∈ L ↔ p ∈ M) : L = M := rise_uniq (R := olt) (fun a z => by unfold olt at z; rw [dlt_irrefl] at z; cases z) (fun a b c x y => dlt_trans x y) h1 h2 h
theorem alike_pair (l m l' m' : Word) : dlk (.tup [.str l, .str m]) (.tup [.str l', .str m']) = true := by
  unfold dlk
  rw [toPy, toPy, toPys, toPys, toPys, toPys, toPys, PySem.W.alike, PySem.W.alikeAll, PySem.W.alikeAll, PySem.W.alikeAll, toPy, toPy, toPy, toPy, PySem.W.alike, PySem.W.alike]
  rfl
theorem seqOk_overs {L : List Ov} (h : ∀ p ∈ L, p ≠ .no ∧ Ab p.rest) : seqOk (L.map encO) = true ∧ (L.map encO).all isTNE = true := by
  refine ⟨seqOk_of (n := 2) (fun a ha b hb => ?_) (fun a ha => ?_) (fun a ha => ?_) (by omega), ?_⟩
  · obtain ⟨p, hp, rfl⟩ := List.mem_map.mp ha
    obtain ⟨q, hq, rfl⟩ := List.mem_map.mp hb
    rw [enc_pair (h p hp).1, enc_pair (h q hq).1]
    exact alike_pair _ _ _ _
  · obtain ⟨p, hp, rfl⟩ := List.mem_map.mp ha
    rw [enc_pair (h p hp).1]
    rfl
  · obtain ⟨p, hp, rfl⟩ := List.mem_map.mp ha
    exact nic_gdp 2 _ (ov_nic (h p hp).2)
  · rw [List.all_eq_true]
    intro a ha
    obtain ⟨p, hp, rfl⟩ := List.mem_map.mp ha
    rw [enc_pair (h p hp).1]
    rfl
theorem sort_overs {fs : List Ov} (hn : fs.Nodup) (h : ∀ p ∈ fs, p ≠ .no) : ∃ L : List Ov, (fs.map encO).mergeSort (PySem.W.dataLe false toPy) = L.map encO ∧ L.Pairwise olt ∧ ∀ p, p ∈ L ↔ p ∈ fs := by
  refine ⟨fs.mergeSort fun p q => PySem.W.dataLe false toPy (encO p) (encO q), ?_, ?_, fun p => List.mem_mergeSort⟩
  · exact (List.map_mergeSort (f := encO) (fun a _ b _ => rfl)).symm
  · have hs := sort_pair (fs.map encO)
    rw [← List.map_mergeSort (r := fun p q => PySem.W.dataLe false toPy (encO p) (encO q)) (f := encO) (fun a _ b _ => rfl), List.pairwise_map] at hs
    have hd : (fs.mergeSort fun p q => PySem.W.dataLe false toPy (encO p) (encO q)).Nodup := (List.mergeSort_perm fs _).nodup_iff.mpr hn
    have hm : ∀ p ∈ (fs.mergeSort fun p q => PySem.W.dataLe false toPy (encO p) (encO q)), p ≠ .no := fun p hp => h p (List.mem_mergeSort.mp hp)
    generalize (fs.mergeSort fun p q => PySem.W.dataLe false toPy (encO p) (encO q)) = L at hs hd hm
    induction L with
    | nil => exact List.Pairwise.nil
    | cons x L ih =>
      rw [List.pairwise_cons] at hs ⊢
      rw [List.nodup_cons] at hd
      refine ⟨fun y hy => ?_, ih hs.2 hd.2 fun p hp => hm p (List.mem_cons_of_mem _ hp)⟩
      unfold olt
      cases e : dlt (encO x) (encO y) with
      | true => rfl
      | false =>
        have := olt_total (hm x List.mem_cons_self) (hm y (List.mem_cons_of_mem _ hy)) e (hs.1 y hy)
        subst this
        exact absurd hy hd.1
/-! what is reached -/
def goalsL (d : Deal) (o : Ov) : List Ov := (fits d o).map (nx d o)
theorem mem_goals {d : Deal} {o p : Ov} : p ∈ goalsL d o ↔ p ≠ .no ∧ ∃ n, n < d.length ∧ p = nx d o n := by
  unfold goalsL
  rw [List.mem_map]
  constructor
  · rintro ⟨n, hn, rfl⟩
    obtain ⟨n1, n2⟩ := mem_fits'.mp hn
    exact ⟨n2, n, n1, rfl⟩
  · rintro ⟨h1, n, h2, rfl⟩
    exact ⟨n, mem_fits'.mpr ⟨h2, h1⟩, rfl⟩
theorem goals_len {d : Deal} (hd : GoodD d) (o : Ov) : (goalsL d o).length ≤ 4 := by
  unfold goalsL
  rw [List.length_map]
  exact Nat.le_trans (fits_len d o) hd.2.1
theorem nx_ok {d : Deal} (hd : GoodD d) {o : Ov} {m n : Nat} (ho : OvOk m o) (hn : n < d.length) : OvOk (m + 3) (nx d o n) := by
  have g := hd.2.2 _ (st_mem hn).2
  exact nextO_ok ho g.1 g.2
theorem goal_ok {d : Deal} (hd : GoodD d) {o p : Ov} {m : Nat} (ho : OvOk m o) (h : p ∈ goalsL d o) : OvOk (m + 3) p := by
  obtain ⟨_, n, hn, rfl⟩ := mem_goals.mp h
  exact nx_ok hd ho hn
theorem ovOf_rest {a b : Word} : (ovOf a b = .even ∨ ovOf a b = .no) ∨ (ovOf a b).rest ≠ [] := by
  rcases ov_cases a b with ⟨rfl, e⟩ | ⟨r, hr, rfl, e⟩ | ⟨r, hr, rfl, e⟩ | ⟨h1, h2, e⟩
  · exact .inl (.inl e)
  · rw [e]; exact .inr hr
  · rw [e]; exact .inr hr
  · exact .inl (.inr e)
theorem nx_rest {d : Deal} {o : Ov} {n : Nat} (h : nx d o n ≠ .no) (h2 : nx d o n ≠ .even) : (nx d o n).rest ≠ [] := by
  unfold nx at h h2 ⊢
  cases o with
  | no => exact absurd rfl h
  | even => exact (ovOf_rest.resolve_left fun z => z.elim h2 h)
  | ab r => exact (ovOf_rest.resolve_left fun z => z.elim h2 h)
  | be r => exact (ovOf_rest.resolve_left fun z => z.elim h2 h)
def Mid (n : Nat) (p : Ov) : Prop := p ≠ .no ∧ p ≠ .even ∧ p.rest ≠ [] ∧ Ab p.rest ∧ p.rest.length ≤ n
inductive Rch (d : Deal) (n : Nat) : Ov → Prop
  | first {p : Ov} : p ∈ goalsL d .even → p ≠ .even → p.rest.length ≤ n → Rch d n p
  | next {q p : Ov} : Rch d n q → p ∈ goalsL d q → p ≠ .even → p.rest.length ≤ n → Rch d n p
theorem Rch.mid {d : Deal} (hd : GoodD d) {n : Nat} {p : Ov} (h : Rch d n p) : Mid n p := by
  have key : ∀ {q p : Ov} {m : Nat}, OvOk m q → p ∈ goalsL d q → p ≠ .even → p.rest.length ≤ n → Mid n p := fun {q p m} hq hp h1 h2 => by
    have hok := goal_ok hd hq hp
    obtain ⟨p1, k, p2, rfl⟩ := mem_goals.mp hp
    exact ⟨p1, h1, nx_rest p1 h1, hok.1, h2⟩
  induction h with
  | first h1 h2 h3 => exact key (q := .even) (m := 0) ⟨Ab.nil, Nat.le_refl _⟩ h1 h2 h3
  | next h1 h2 h3 h4 ih => exact key (m := n) ⟨ih.2.2.2.1, ih.2.2.2.2⟩ h2 h3 h4
theorem Rch.up {d : Deal} {n m : Nat} (hm : n ≤ m) {p : Ov} (h : Rch d n p) : Rch d m p := by
  induction h with
  | first h1 h2 h3 => exact .first h1 h2 (by omega)
  | next h1 h2 h3 h4 ih => exact .next ih h2 h3 (by omega)
def Fr (d : Deal) (n : Nat) (q : Ov) : Prop := q = .even ∨ Rch d n q
theorem Fr.next {d : Deal} {n : Nat} {q p : Ov} (h : Fr d n q) (hp : p ∈ goalsL d q) (h1 : p ≠ .even) (h2 : p.rest.length ≤ n) : Rch d n p := by
  rcases h with rfl | h
  · exact .first hp h1 h2
  · exact .next h hp h1 h2
theorem Fr.ok {d : Deal} (hd : GoodD d) {n : Nat} {q : Ov} (h : Fr d n q) : OvOk n q ∧ q ≠ .no := by
  rcases h with rfl | h
  · exact ⟨⟨Ab.nil, Nat.zero_le _⟩, fun z => nomatch z⟩
  · have := h.mid hd
    exact ⟨⟨this.2.2.2.1, this.2.2.2.2⟩, this.1⟩
/-! all overs of at most n letters -/
def wordsN : Nat → List Word
  | 0 => [[]]
  | n + 1 => (wordsN n).map (97 :: ·) ++ (wordsN n).map (98 :: ·)
theorem mem_wordsN : ∀ {w : Word}, Ab w → w ∈ wordsN w.length
  | [], _ => List.mem_singleton_self _
  | c :: w, h => by
    have hw : w ∈ wordsN w.length := mem_wordsN fun x hx => h x (List.mem_cons_of_mem _ hx)
    show c :: w ∈ (wordsN w.length).map (97 :: ·) ++ (wordsN w.length).map (98 :: ·)
    rcases h c List.mem_cons_self with rfl | rfl
    · exact List.mem_append_left _ (List.mem_map.mpr ⟨w, hw, rfl⟩)
    · exact List.mem_append_right _ (List.mem_map.mpr ⟨w, hw, rfl⟩)
def allO : List Ov := ((List.range 9).map wordsN).flatten.map .ab ++ ((List.range 9).map wordsN).flatten.map .be
theorem allO_len : allO.length ≤ 1100 := by decide +kernel
theorem mem_allO {n : Nat} {p : Ov} (h : Mid n p) (hn : n ≤ 8) : p ∈ allO := by
  obtain ⟨h1, h2, h3, h4, h5⟩ := h
  have key : ∀ w : Word, Ab w → w.length ≤ n → w ∈ ((List.range 9).map wordsN).flatten := fun w hw hl =>
    List.mem_flatten.mpr ⟨_, List.mem_map.mpr ⟨w.length, List.mem_range.mpr (by omega), rfl⟩, mem_wordsN hw⟩
  cases p with
  | no => exact absurd rfl h1
  | even => exact absurd rfl h2
  | ab r => exact List.mem_append_left _ (List.mem_map.mpr ⟨r, key r h4 h5, rfl⟩)
  | be r => exact List.mem_append_right _ (List.mem_map.mpr ⟨r, key r h4 h5, rfl⟩)
theorem nodup_len {α : Type} [DecidableEq α] : ∀ {l u : List α}, l.Nodup → (∀ x ∈ l, x ∈ u) → l.length ≤ u.length
  | [], _, _, _ => Nat.zero_le _
  | x :: l, u, hn, h => by
    rw [List.nodup_cons] at hn
    have hx := h x List.mem_cons_self
    have ih := nodup_len (u := u.erase x) hn.2 fun y hy => (List.mem_erase_of_ne (fun (z : y = x) => hn.1 (z ▸ hy))).mpr (h y (List.mem_cons_of_mem _ hy))
    have := List.length_erase_of_mem hx
    have := List.length_pos_of_mem hx
    rw [List.length_cons]
    omega
/-! goals, reach -/
theorem G_goals (k : Nat) {d : Deal} {o : Ov} (hd : GoodD d) (ho : OvOk 800000 o) (hne : o ≠ .no) : Gn S defs (k + 4) 4 [encD d, encO o] = some (.lst ((goalsL d o).map encO)) := by
  rw [un_goals]
  have hf := fits_len d o
  have h4 := hd.2.1
  simp only [d_goals, EVa, glo_LETTERS, glo_EVEN, G_fitting k hd (⟨ho.1, by have := ho.2; omega⟩ : OvOk 900000 o) hne, encR]
  rw [compK_all (e := fun n : Nat => D.int (n : Nat)) (g := fun n => encO (nx d o n)) (by omega) (fun n hn => ⟨_, asg_nm, evC_none, by
    simp only [EVa, glo_LETTERS, glo_EVEN]
    exact G_next (k + 1) hd (mem_fits'.mp hn).1 (⟨ho.1, by have := ho.2; omega⟩ : OvOk 900000 o) hne⟩)]
  simp only [EVa, glo_LETTERS, glo_EVEN]
  unfold goalsL
  rw [List.map_map]
  rfl
def addG (n : Nat) (fl : List Ov × List Ov) (g : Ov) : List Ov × List Ov := if g ≠ .even ∧ g.rest.length ≤ n ∧ g ∉ fl.1 then (fl.1 ++ [g], fl.2 ++ [g]) else fl
theorem addG_yes {n : Nat} {f l : List Ov} {g : Ov} (h : g ≠ .even ∧ g.rest.length ≤ n ∧ g ∉ f) : addG n (f, l) g = (f ++ [g], l ++ [g]) := if_pos h
theorem addG_no {n : Nat} {f l : List Ov} {g : Ov} (h : ¬ (g ≠ .even ∧ g.rest.length ≤ n ∧ g ∉ f)) : addG n (f, l) g = (f, l) := if_neg h
theorem reach_in (k : Nat) {x0 : Sl} {n : Nat} {f l : List Ov} {g : Ov} (hg : g ≠ .no) (ha : OvOk 800000 g) (hf : f.length ≤ 1000000) (hl : l.length ≤ 1000000) :
    exs S (Gn S defs k) b_reach_2 [x0, .d (.int (n : Nat)), .m (seenD f), .l (l.map encO), .d (encO g)] = some (.nx [x0, .d (.int (n : Nat)), .m (seenD (addG n (f, l) g).1), .l ((addG n (f, l) g).2.map encO), .d (encO g)]) := by
  have hn := ne_even g ha.1
  have hid : idxD (encO g) (.int 1) = some (.str g.rest) := by rw [enc_pair hg, idx_tup]; rfl
  have hlen := len_str (l := g.rest) (by have := ha.2; omega)
  have hli : (((g.rest.length : Nat) : Int) ≤ (n : Nat)) ↔ g.rest.length ≤ n := by omega
  simp only [b_reach_2, EVa, glo_LETTERS, glo_EVEN, glo_EVEN, hn]
  by_cases h1 : g = .even
  · rw [addG_no (fun z => z.1 h1)]
    simp only [decide_eq_true h1, Bool.not_true, EVa, glo_LETTERS, glo_EVEN]
  · simp only [decide_eq_false h1, Bool.not_false, EVa, glo_LETTERS, glo_EVEN, hid, hlen, decide_eq_decide.mpr hli]
    by_cases h2 : g.rest.length ≤ n
    · simp only [decide_eq_true h2, EVa, glo_LETTERS, glo_EVEN, mninK_of (key_O hg), seen_get]
      by_cases h3 : g ∈ f
      · rw [addG_no (fun z => z.2.2 h3)]
        simp only [decide_eq_true h3, Bool.not_true, EVa, glo_LETTERS, glo_EVEN]
      · rw [addG_yes ⟨h1, h2, h3⟩]
        simp only [decide_eq_false h3, Bool.not_false, EVa, glo_LETTERS, glo_EVEN]
        rw [DL.putK_of (key_O hg) (by unfold seenD; rw [List.length_map]; omega), seen_put h3]
        simp only [EVa, glo_LETTERS, glo_EVEN]
        rw [appK_of (by rw [List.length_map]; omega)]
        simp only [EVa, glo_LETTERS, glo_EVEN]
        rw [List.map_append]
        rfl
    · rw [addG_no (fun z => h2 z.2.1)]
      simp only [decide_eq_false h2, EVa, glo_LETTERS, glo_EVEN]
theorem addG_len {n : Nat} {f l : List Ov} {g : Ov} : (addG n (f, l) g).1.length ≤ f.length + 1 ∧ (addG n (f, l) g).2.length ≤ l.length + 1 := by
  by_cases h : g ≠ .even ∧ g.rest.length ≤ n ∧ g ∉ f
  · rw [addG_yes h]; simp
  · rw [addG_no h]; exact ⟨Nat.le_succ _, Nat.le_succ _⟩
theorem reach_inner (k : Nat) {x0 : Sl} {n : Nat} : ∀ (gs f l : List Ov) (s4 : Sl), (∀ g ∈ gs, g ≠ .no ∧ OvOk 800000 g) → f.length + gs.length ≤ 1000000 → l.length + gs.length ≤ 1000000 →
    ∃ t4, forK (.nm 4) (exs S (Gn S defs k) b_reach_2) [x0, .d (.int (n : Nat)), .m (seenD f), .l (l.map encO), s4] (gs.map encO) = some (.nx [x0, .d (.int (n : Nat)), .m (seenD (gs.foldl (addG n) (f, l)).1), .l ((gs.foldl (addG n) (f, l)).2.map encO), t4])
  | [], f, l, s4, _, _, _ => ⟨s4, rfl⟩
  | g :: gs, f, l, s4, h, hf, hl => by
    rw [List.length_cons] at hf hl
    obtain ⟨h1, h2⟩ := h g List.mem_cons_self
    have hal := addG_len (n := n) (f := f) (l := l) (g := g)
    obtain ⟨t4, ih⟩ := reach_inner k (x0 := x0) (n := n) gs (addG n (f, l) g).1 (addG n (f, l) g).2 (.d (encO g)) (fun x hx => h x (List.mem_cons_of_mem _ hx)) (by omega) (by omega)
    have step := reach_in k (x0 := x0) (n := n) (f := f) (l := l) h1 h2 (by omega) (by omega)
    have h0 : asg (.nm 4) (encO g) [x0, .d (.int (n : Nat)), .m (seenD f), .l (l.map encO), s4] = some [x0, .d (.int (n : Nat)), .m (seenD f), .l (l.map encO), .d (encO g)] := by rw [asg_nm]; rfl
    exact ⟨t4, by rw [List.map_cons, forK_step h0 step, ih]; rfl⟩
structure RI (d : Deal) (n : Nat) (f l : List Ov) : Prop where
  nd : f.Nodup
  ok : ∀ p ∈ f, Rch d n p
  sub : ∀ y ∈ l, y = .even ∨ y ∈ f
  cl : ∀ q, (q = .even ∨ q ∈ f) → q ∉ l → ∀ g ∈ goalsL d q, g ≠ .even → g.rest.length ≤ n → g ∈ f
theorem foldG {n : Nat} {P : Ov → Prop} : ∀ (gs f l : List Ov), f.Nodup → (∀ g ∈ gs, P g) → ∃ new, (gs.foldl (addG n) (f, l)).1 = f ++ new ∧ (gs.foldl (addG n) (f, l)).2 = l ++ new ∧ (f ++ new).Nodup ∧ (∀ g ∈ new, P g ∧ g ≠ .even ∧ g.rest.length ≤ n) ∧ ∀ g ∈ gs, g ≠ .even → g.rest.length ≤ n → g ∈ f ++ new
  | [], f, l, hn, _ => ⟨[], by simp, by simp, by simpa using hn, fun g hg => absurd hg List.not_mem_nil, fun g hg => absurd hg List.not_mem_nil⟩
  | g :: gs, f, l, hn, h => by
    rw [List.foldl_cons]
    by_cases hc : g ≠ .even ∧ g.rest.length ≤ n ∧ g ∉ f
    · rw [addG_yes hc]
      have hn' : (f ++ [g]).Nodup := by
        rw [List.nodup_append]
        exact ⟨hn, by simp, fun a ha b hb => by rw [List.mem_singleton.mp hb]; exact fun z => hc.2.2 (z ▸ ha)⟩
      obtain ⟨new, e1, e2, e3, e4, e5⟩ := foldG (n := n) (P := P) gs (f ++ [g]) (l ++ [g]) hn' fun x hx => h x (List.mem_cons_of_mem _ hx)
      refine ⟨g :: new, by rw [e1, List.append_assoc]; rfl, by rw [e2, List.append_assoc]; rfl, by rw [List.append_assoc] at e3; exact e3, fun x hx => ?_, fun x hx x1 x2 => ?_⟩
      · rcases List.mem_cons.mp hx with rfl | hx
        · exact ⟨h _ List.mem_cons_self, hc.1, hc.2.1⟩
        · exact e4 x hx
      · rcases List.mem_cons.mp hx with rfl | hx
        · exact List.mem_append_right _ List.mem_cons_self
        · have := e5 x hx x1 x2
          rw [List.append_assoc] at this
          exact this
    · rw [addG_no hc]
      obtain ⟨new, e1, e2, e3, e4, e5⟩ := foldG (n := n) (P := P) gs f l hn fun x hx => h x (List.mem_cons_of_mem _ hx)
      refine ⟨new, e1, e2, e3, e4, fun x hx x1 x2 => ?_⟩
      rcases List.mem_cons.mp hx with rfl | hx
      · exact List.mem_append_left _ (Classical.byContradiction fun z => hc ⟨x1, x2, z⟩)
      · exact e5 x hx x1 x2
theorem RI.len {d : Deal} (hd : GoodD d) {n : Nat} (hn : n ≤ 8) {f l : List Ov} (h : RI d n f l) : f.length ≤ 1100 := Nat.le_trans (nodup_len h.nd fun p hp => mem_allO ((h.ok p hp).mid hd) hn) allO_len
theorem reach_loop (k : Nat) {d : Deal} (hd : GoodD d) {n : Nat} (hn : n ≤ 8) : ∀ (M : Nat) (f l : List Ov) (fuel : Nat) (s4 : Sl), RI d n f l → M ≤ 10000 → 2 * (1100 - f.length) + l.length ≤ M → M < fuel →
    ∃ f' t4, RI d n f' [] ∧ gwhl 3 (exs S (Gn S defs (k + 4)) b_reach_1) fuel [.d (encD d), .d (.int (n : Nat)), .m (seenD f), .l (l.map encO), s4] = some (.nx [.d (encD d), .d (.int (n : Nat)), .m (seenD f'), .l [], t4])
  | M, f, l, 0, s4, _, _, _, hf => by omega
  | M, f, l, fuel + 1, s4, h, hl, hM, hf => by
    rcases List.eq_nil_or_concat l with rfl | ⟨i, y, rfl⟩
    · exact ⟨f, s4, h, gwhl_nil rfl⟩
    · rw [List.concat_eq_append] at h hM ⊢
      rw [List.length_append, List.length_singleton] at hM
      have hy : Fr d n y := (h.sub y (List.mem_append_right _ List.mem_cons_self)).imp id (h.ok y)
      obtain ⟨hyo, hyn⟩ := hy.ok hd
      have hgl := goals_len hd y
      have hfl := h.len hd hn
      obtain ⟨new, e1, e2, e3, e4, e5⟩ := foldG (n := n) (P := fun g => g ∈ goalsL d y) (goalsL d y) f i h.nd fun g hg => hg
      have RI' : RI d n (f ++ new) (i ++ new) := by
        refine ⟨e3, fun p hp => ?_, fun z hz => ?_, fun q hq hql g hg g1 g2 => ?_⟩
        · rcases List.mem_append.mp hp with z | z
          · exact h.ok p z
          · exact hy.next (e4 p z).1 (e4 p z).2.1 (e4 p z).2.2
        · rcases List.mem_append.mp hz with w | w
          · exact (h.sub z (List.mem_append_left _ w)).imp id (List.mem_append_left _)
          · exact .inr (List.mem_append_right _ w)
        · by_cases hqy : q = y
          · subst hqy
            exact e5 g hg g1 g2
          · have hq' : q = .even ∨ q ∈ f := hq.imp id fun z => (List.mem_append.mp z).elim id fun z => absurd (List.mem_append_right _ z) hql
            refine List.mem_append_left _ (h.cl q hq' (fun z => ?_) g hg g1 g2)
            rcases List.mem_append.mp z with w | w
            · exact hql (List.mem_append_left _ w)
            · exact hqy (List.mem_singleton.mp w)
      have hfl' := RI'.len hd hn
      rw [List.length_append] at hfl'
      obtain ⟨t4, hin⟩ := reach_inner (k + 4) (x0 := .d (encD d)) (n := n) (goalsL d y) f i s4 (fun g hg => ⟨(mem_goals.mp hg).1, by have := goal_ok hd hyo hg; exact ⟨this.1, by have := this.2; omega⟩⟩) (by omega) (by omega)
      rw [e1, e2] at hin
      have step : exs S (Gn S defs (k + 4)) b_reach_1 [.d (encD d), .d (.int (n : Nat)), .m (seenD f), .l ((i ++ [y]).map encO), s4] = some (.nx [.d (encD d), .d (.int (n : Nat)), .m (seenD (f ++ new)), .l ((i ++ new).map encO), t4]) := by
        rw [List.map_append, List.map_singleton]
        simp only [b_reach_1, EVa, glo_LETTERS, glo_EVEN, forPK_of, G_goals k hd (⟨hyo.1, by have := hyo.2; omega⟩ : OvOk 800000 y) hyn]
        rw [hin]
        simp only [EVa, glo_LETTERS, glo_EVEN]
      obtain ⟨f', u4, r1, r2⟩ := reach_loop k hd hn (M - 1) (f ++ new) (i ++ new) fuel t4 RI' (by omega) (by rw [List.length_append, List.length_append]; omega) (by omega)
      refine ⟨f', u4, r1, ?_⟩
      rw [← r2]
      cases hm : (i ++ [y]).map encO with
      | nil =>
        have := congrArg List.length hm
        simp at this
      | cons a b =>
        rw [hm] at step
        exact gwhl_nx rfl step
theorem RI.all {d : Deal} {n : Nat} {f : List Ov} (h : RI d n f []) : ∀ p, p ∈ f ↔ Rch d n p := fun p => by
  refine ⟨h.ok p, fun hp => ?_⟩
  induction hp with
  | first h1 h2 h3 => exact h.cl .even (.inl rfl) List.not_mem_nil _ h1 h2 h3
  | next h1 h2 h3 h4 ih => exact h.cl _ (.inr ih) List.not_mem_nil _ h2 h3 h4
def IsReach (d : Deal) (n : Nat) (L : List Ov) : Prop := L.Pairwise olt ∧ ∀ p, p ∈ L ↔ Rch d n p
theorem IsReach.uniq {d : Deal} {n : Nat} {L M : List Ov} (h : IsReach d n L) (h' : IsReach d n M) : L = M := olt_uniq h.1 h'.1 fun p => (h.2 p).trans (h'.2 p).symm
theorem olt_nodup {L : List Ov} (h : L.Pairwise olt) : L.Nodup := h.imp fun h z => by subst z; unfold olt at h; rw [dlt_irrefl] at h; cases h
theorem IsReach.len {d : Deal} (hd : GoodD d) {n : Nat} (hn : n ≤ 8) {L : List Ov} (h : IsReach d n L) : L.length ≤ 1100 := Nat.le_trans (nodup_len (olt_nodup h.1) fun p hp => mem_allO (((h.2 p).mp hp).mid hd) hn) allO_len
theorem seenD_keys (f : List Ov) : (seenD f).map (·.1) = f.map encO := by
  unfold seenD
  rw [List.map_map]
  rfl
theorem G_reach (k : Nat) {d : Deal} (hd : GoodD d) {n : Nat} (hn : n ≤ 8) : ∃ L, IsReach d n L ∧ Gn S defs (k + 5) 7 [encD d, .int (n : Nat)] = some (.tup (L.map encO)) := by
  obtain ⟨f, t4, h1, h2⟩ := reach_loop k hd hn 2201 [] [.even] 1000000 .no ⟨List.nodup_nil, fun p hp => absurd hp List.not_mem_nil, fun y hy => .inl (List.mem_singleton.mp hy), fun q hq hql => by
    rcases hq with rfl | hq
    · exact absurd (List.mem_singleton_self _) hql
    · cases hq⟩ (by simp) (by simp) (by omega)
  have hm : ∀ p ∈ f, Mid n p := fun p hp => (h1.ok p hp).mid hd
  obtain ⟨L, l1, l2, l3⟩ := sort_overs h1.nd fun p hp => (hm p hp).1
  obtain ⟨q1, q2⟩ := seqOk_overs (L := f) fun p hp => ⟨(hm p hp).1, (hm p hp).2.2.2.1⟩
  refine ⟨L, ⟨l2, fun p => (l3 p).trans (h1.all p)⟩, ?_⟩
  rw [un_reach]
  simp only [d_reach, EVa, glo_LETTERS, glo_EVEN, glo_EVEN, ex_whl]
  have h2' : gwhl 3 (exs S (Gn S defs (k + 4)) b_reach_1) 1000000 [.d (encD d), .d (.int (n : Nat)), .m [], .l [.tup [.str sEven, .str []]], .no] = _ := h2
  rw [h2']
  have hs : sortM (seenD f) = some (.lst (L.map encO)) := by
    unfold sortM
    rw [seenD_keys, q1, q2, decide_eq_true (by unfold seenD; rw [List.length_map]; have := h1.len hd hn; rw [PySem.sizeLine_eq]; omega), l1]
    rfl
  simp only [EVa, glo_LETTERS, glo_EVEN, hs]
/-! what a stone leads to, by the law's own way -/
theorem G_lt1 (k : Nat) {a b : Word} (ha : a.length ≤ 1000000) (hb : b.length ≤ 1000000) : Gn S defs (k + 1) 15 [.tup [.tup [.str a, .str b]], .tup [.int 0]] = some (.tup [.str a, .str b]) := by
  rw [un__law_texts]
  simp only [d__law_texts, EVa, glo_LETTERS, glo_EVEN]
  have z0 : ∀ x : D, atI [x] 0 = some x := fun _ => rfl
  have step : exs S (Gn S defs k) b__law_texts_1 [.d (.tup [.tup [.str a, .str b]]), .d (.tup [.int 0]), .d (.str []), .d (.str []), .d (.int 0)] = some (.nx [.d (.tup [.tup [.str a, .str b]]), .d (.tup [.int 0]), .d (.str a), .d (.str b), .d (.int 0)]) := by
    simp only [b__law_texts_1, EVa, glo_LETTERS, glo_EVEN, z0, at_0, at_1, add_str (show ([] : Word).length + a.length ≤ 16777216 by simp; omega), add_str (show ([] : Word).length + b.length ≤ 16777216 by simp; omega), List.nil_append]
  rw [forK_step asg_nm step, forK_nil]
  simp only [EVa, glo_LETTERS, glo_EVEN]
theorem G_lover1 (k : Nat) {a b : Word} (b1 : Ab a) (b2 : Ab b) (h1 : a.length ≤ 1000000) (h2 : b.length ≤ 1000000) : Gn S defs (k + 2) 16 [.tup [.tup [.str a, .str b]], .tup [.int 0]] = some (encO (ovOf a b)) := by
  rw [un__law_over]
  simp only [d__law_over, EVa, glo_LETTERS, glo_EVEN, G_lt1 k h1 h2]
  have la := len_str (l := a) (by omega)
  have lb := len_str (l := b) (by omega)
  have sa : ∀ lo hi, slcD lo hi (.str a) = some (.str (cut a lo hi)) := fun lo hi => slc_str (by omega)
  have sb : ∀ lo hi, slcD lo hi (.str b) = some (.str (cut b lo hi)) := fun lo hi => slc_str (by omega)
  simp only [EVa, glo_LETTERS, glo_EVEN, la, lb]
  obtain ⟨s, hs⟩ : ∃ s : Nat, (s : Int) = (if (b.length : Int) < a.length then (b.length : Int) else a.length) := by
    split
    · exact ⟨b.length, rfl⟩
    · exact ⟨a.length, rfl⟩
  have hs' : s = min a.length b.length := by split at hs <;> omega
  rw [← hs]
  simp only [EVa, glo_LETTERS, glo_EVEN, sa, sb, cut_to, DL.ne_str (Ab.ok (b1.take s)) (Ab.ok (b2.take s))]
  by_cases e : a.take s = b.take s
  · simp only [decide_eq_true e, EVa, glo_LETTERS, glo_EVEN, Bool.not_true]
    by_cases el : a.length = b.length
    · have : a = b := by
        rw [hs', el, Nat.min_self, List.take_length, ← el, List.take_length] at e
        exact e
      subst this
      rw [ovOf_same]
      simp only [la, EVa, glo_LETTERS, glo_EVEN]
      rfl
    · have el' : ¬ ((a.length : Nat) : Int) = (b.length : Nat) := by omega
      simp only [la, lb, decide_eq_false el', EVa, glo_LETTERS, glo_EVEN]
      by_cases ea : b.length < a.length
      · have hsb : s = b.length := by omega
        have eb : b = a.take b.length := by
          rw [hsb] at e
          rw [List.take_length] at e
          exact e.symm
        have ea' : ((s : Nat) : Int) < (a.length : Nat) := by omega
        have ex : a = b ++ a.drop b.length := by
          conv => lhs; rw [← List.take_append_drop b.length a]
          rw [← eb]
        have hr : a.drop b.length ≠ [] := fun z => by
          have := congrArg List.length z
          simp at this
          omega
        simp only [decide_eq_true ea', EVa, glo_LETTERS, glo_EVEN, sa, cut_from]
        rw [ovOf_ab ex hr, hsb]
        rfl
      · have hsa : s = a.length := by omega
        have eb : a = b.take a.length := by
          rw [hsa] at e
          rw [List.take_length] at e
          exact e
        have ea' : ¬ ((s : Nat) : Int) < (a.length : Nat) := by omega
        have ex : b = a ++ b.drop a.length := by
          conv => lhs; rw [← List.take_append_drop a.length b]
          rw [← eb]
        have hr : b.drop a.length ≠ [] := fun z => by
          have := congrArg List.length z
          simp at this
          omega
        simp only [decide_eq_false ea', EVa, glo_LETTERS, glo_EVEN, sb, cut_from]
        rw [ovOf_be ex hr, hsa]
        rfl
  · simp only [decide_eq_false e, EVa, glo_LETTERS, glo_EVEN, Bool.not_false]
    have : ovOf a b = .no := ovOf_no (fun ⟨t, ht⟩ => e (by
        subst ht
        have : s = a.length := by rw [hs']; simp
        rw [this]
        simp)) (fun ⟨t, ht⟩ => e (by
        subst ht
        have : s = b.length := by rw [hs']; simp
        rw [this]
        simp))
    rw [this]
    rfl
theorem G_led (k : Nat) {d : Deal} (hd : GoodD d) {o : Ov} {n : Nat} (hn : n < d.length) (ho : OvOk 900000 o) (hne : o ≠ .no) : Gn S defs (k + 3) 19 [encD d, encO o, .int n] = some (encO (nx d o n)) := by
  rw [un__law_led]
  have g := hd.2.2 _ (st_mem hn).2
  have u2 := g.1.2.1
  have v2 := g.2.2.1
  obtain ⟨ho1, ho2⟩ := ho
  have q : ∀ l m : Word, (l = sEven ∨ l = sAbove ∨ l = sBelow) → (m = sEven ∨ m = sAbove ∨ m = sBelow) → eqD (.str l) (.str m) = some (.bl (decide (l = m))) := fun l m hl hm => DL.eq_str (by rcases hl with rfl | rfl | rfl; exact lab_ok.1; exact lab_ok.2.1; exact lab_ok.2.2) (by rcases hm with rfl | rfl | rfl; exact lab_ok.1; exact lab_ok.2.1; exact lab_ok.2.2)
  have q1 : ∀ l, (l = sEven ∨ l = sAbove ∨ l = sBelow) → eqD (.str l) (.str [97, 98, 111, 118, 101]) = some (.bl (decide (l = sAbove))) := fun l hl => q l sAbove hl (.inr (.inl rfl))
  have q2 : ∀ l, (l = sEven ∨ l = sAbove ∨ l = sBelow) → eqD (.str l) (.str [98, 101, 108, 111, 119]) = some (.bl (decide (l = sBelow))) := fun l hl => q l sBelow hl (.inr (.inr rfl))
  simp only [d__law_led, encD, EVa, glo_LETTERS, glo_EVEN, at_stone hn, encS]
  cases o with
  | no => exact absurd rfl hne
  | even =>
    simp only [encO_even, EVa, glo_LETTERS, glo_EVEN, at_0, at_1, q1 sEven (.inl rfl), q2 sEven (.inl rfl), show decide (sEven = sAbove) = false by decide, show decide (sEven = sBelow) = false by decide, G_lover1 k g.1.2.2 g.2.2.2 (by omega) (by omega)]
    rfl
  | ab r =>
    have ho2 : r.length ≤ 900000 := ho2
    have ho1 : Ab r := ho1
    simp only [encO_ab, EVa, glo_LETTERS, glo_EVEN, at_0, at_1, q1 sAbove (.inr (.inl rfl)), show decide (sAbove = sAbove) = true by decide, add_str (show r.length + (st d n).1.length ≤ 16777216 by omega), G_lover1 k (Ab.append ho1 g.1.2.2) g.2.2.2 (show (r ++ (st d n).1).length ≤ 1000000 by rw [List.length_append]; omega) (show (st d n).2.length ≤ 1000000 by omega)]
    rfl
  | be r =>
    have ho2 : r.length ≤ 900000 := ho2
    have ho1 : Ab r := ho1
    simp only [encO_be, EVa, glo_LETTERS, glo_EVEN, at_0, at_1, q1 sBelow (.inr (.inr rfl)), q2 sBelow (.inr (.inr rfl)), show decide (sBelow = sAbove) = false by decide, show decide (sBelow = sBelow) = true by decide, add_str (show r.length + (st d n).2.length ≤ 16777216 by omega), G_lover1 k g.1.2.2 (Ab.append ho1 g.2.2.2) (show (st d n).1.length ≤ 1000000 by omega) (show (r ++ (st d n).2).length ≤ 1000000 by rw [List.length_append]; omega)]
    rfl
/-! the law's way of reaching -/
def okO (n : Nat) (g : Ov) : Prop := g ≠ .no ∧ 0 < g.rest.length ∧ g.rest.length ≤ n
instance (n : Nat) (g : Ov) : Decidable (okO n g) := by unfold okO; exact inferInstance
def addN (n : Nat) (F N : List Ov) (g : Ov) : List Ov := if okO n g ∧ g ∉ F ++ N then N ++ [g] else N
theorem addN_len {n : Nat} {F N : List Ov} {g : Ov} : (addN n F N g).length ≤ N.length + 1 := by
  unfold addN
  split
  · simp
  · omega
theorem foldN (n : Nat) (F : List Ov) : ∀ (gs N : List Ov), (F ++ N).Nodup → ∃ M, gs.foldl (addN n F) N = N ++ M ∧ (F ++ (N ++ M)).Nodup ∧ (∀ g ∈ M, g ∈ gs ∧ okO n g) ∧ ∀ g ∈ gs, okO n g → g ∈ F ++ (N ++ M)
  | [], N, h => ⟨[], by simp, by simpa using h, fun g hg => absurd hg List.not_mem_nil, fun g hg => absurd hg List.not_mem_nil⟩
  | g :: gs, N, h => by
    rw [List.foldl_cons]
    by_cases c : okO n g ∧ g ∉ F ++ N
    · have e : addN n F N g = N ++ [g] := if_pos c
      have h' : (F ++ (N ++ [g])).Nodup := by
        rw [← List.append_assoc, List.nodup_append]
        exact ⟨h, by simp, fun a ha b hb => by rw [List.mem_singleton.mp hb]; exact fun z => c.2 (z ▸ ha)⟩
      obtain ⟨M, m1, m2, m3, m4⟩ := foldN n F gs (N ++ [g]) h'
      rw [e]
      refine ⟨g :: M, by rw [m1, List.append_assoc]; rfl, by rw [List.append_assoc] at m2; exact m2, fun x hx => ?_, fun x hx ho => ?_⟩
      · rcases List.mem_cons.mp hx with rfl | hx
        · exact ⟨List.mem_cons_self, c.1⟩
        · exact ⟨List.mem_cons_of_mem _ (m3 x hx).1, (m3 x hx).2⟩
      · rcases List.mem_cons.mp hx with rfl | hx
        · exact List.mem_append_right _ (List.mem_append_right _ List.mem_cons_self)
        · have := m4 x hx ho
          rw [List.append_assoc] at this
          exact this
    · have e : addN n F N g = N := if_neg c
      obtain ⟨M, m1, m2, m3, m4⟩ := foldN n F gs N h
      rw [e]
      refine ⟨M, m1, m2, fun x hx => ⟨List.mem_cons_of_mem _ (m3 x hx).1, (m3 x hx).2⟩, fun x hx ho => ?_⟩
      rcases List.mem_cons.mp hx with rfl | hx
      · have : x ∈ F ++ N := Classical.byContradiction fun z => c ⟨ho, z⟩
        rw [← List.append_assoc]
        exact List.mem_append_left _ this
      · exact m4 x hx ho
theorem nin_oversL {p : Ov} {L : List Ov} (hp : Ab p.rest) (hL : ∀ q ∈ L, Ab q.rest) : ninD (encO p) (.lst (L.map encO)) = some (.bl (!decide (p ∈ L))) := by
  rw [nin_lst (n := 2) (m := 3) (nic_gdp 2 _ (ov_nic hp)) (clean_lst fun x hx => by
    obtain ⟨q, hq, rfl⟩ := List.mem_map.mp hx
    exact nic_gdp 2 _ (ov_nic (hL q hq))) (by omega) (by omega)]
  congr 3
  rw [Bool.eq_iff_iff, decide_eq_true_eq]
  exact any_map_mem (fun x y => encO_inj) L p
theorem lr_one (k : Nat) {d : Deal} (hd : GoodD d) {n : Nat} {F N : List Ov} (hF : ∀ q ∈ F, Ab q.rest) (hN : ∀ q ∈ N, Ab q.rest) (hl : F.length + N.length ≤ 1000000) {o : Ov} (ho : OvOk 800000 o) (hne : o ≠ .no) {j : Nat} (hj : j < d.length) {x3 s7 : Sl} :
    exs S (Gn S defs (k + 3)) b__law_reach_3 [.d (encD d), .d (.int n), .d (.lst (F.map encO)), x3, .l (N.map encO), .d (encO o), .d (.int j), s7] = some (.nx [.d (encD d), .d (.int n), .d (.lst (F.map encO)), x3, .l ((addN n F N (nx d o j)).map encO), .d (encO o), .d (.int j), .d (encO (nx d o j))]) := by
  have e := G_led k hd hj (⟨ho.1, by have := ho.2; omega⟩ : OvOk 900000 o) hne
  have hok := nx_ok hd ho hj
  generalize nx d o j = g at e hok ⊢
  simp only [b__law_reach_3, EVa, glo_LETTERS, glo_EVEN, e]
  by_cases h1 : g = .no
  · subst h1
    have : addN n F N .no = N := if_neg fun z => z.1.1 rfl
    rw [this]
    simp only [encO_no, EVa, glo_LETTERS, glo_EVEN, Bool.not_true]
  · have hi : isNon (encO g) = false := by rw [enc_pair h1]; rfl
    have hid : idxD (encO g) (.int 1) = some (.str g.rest) := by rw [enc_pair h1, idx_tup]; rfl
    have hlen := len_str (l := g.rest) (by have := hok.2; omega)
    simp only [hi, EVa, glo_LETTERS, glo_EVEN, Bool.not_false, hid, hlen]
    by_cases h2 : 0 < g.rest.length
    · have h2' : (0 : Int) < (g.rest.length : Nat) := by omega
      simp only [decide_eq_true h2', EVa, glo_LETTERS, glo_EVEN]
      by_cases h3 : g.rest.length ≤ n
      · have h3' : ((g.rest.length : Nat) : Int) ≤ (n : Nat) := by omega
        have had : addD (.lst (F.map encO)) (.lst (N.map encO)) = some (.lst ((F ++ N).map encO)) := by rw [add_lst (by simp; omega), List.map_append]
        have hnn := nin_oversL hok.1 (L := F ++ N) fun q hq => (List.mem_append.mp hq).elim (hF q) (hN q)
        simp only [decide_eq_true h3', EVa, glo_LETTERS, glo_EVEN, had, hnn]
        by_cases h4 : g ∈ F ++ N
        · have : addN n F N g = N := if_neg fun z => z.2 h4
          rw [this]
          simp only [decide_eq_true h4, Bool.not_true, EVa, glo_LETTERS, glo_EVEN]
        · have : addN n F N g = N ++ [g] := if_pos ⟨⟨h1, h2, h3⟩, h4⟩
          rw [this]
          simp only [decide_eq_false h4, Bool.not_false, EVa, glo_LETTERS, glo_EVEN]
          rw [appK_of (by rw [List.length_map]; omega)]
          simp only [EVa, glo_LETTERS, glo_EVEN]
          rw [List.map_append]
          rfl
      · have h3' : ¬ ((g.rest.length : Nat) : Int) ≤ (n : Nat) := by omega
        have : addN n F N g = N := if_neg fun z => h3 z.1.2.2
        rw [this]
        simp only [decide_eq_false h3', EVa, glo_LETTERS, glo_EVEN]
    · have h2' : ¬ (0 : Int) < (g.rest.length : Nat) := by omega
      have : addN n F N g = N := if_neg fun z => h2 z.1.2.1
      rw [this]
      simp only [decide_eq_false h2', EVa, glo_LETTERS, glo_EVEN]
theorem addN_ab {n : Nat} {F N : List Ov} {g : Ov} (hN : ∀ q ∈ N, Ab q.rest) (hg : Ab g.rest) : ∀ q ∈ addN n F N g, Ab q.rest := by
  unfold addN
  split
  · intro q hq
    rcases List.mem_append.mp hq with z | z
    · exact hN q z
    · rw [List.mem_singleton.mp z]; exact hg
  · exact hN
theorem lr_row (k : Nat) {d : Deal} (hd : GoodD d) {n : Nat} {F : List Ov} (hF : ∀ q ∈ F, Ab q.rest) {o : Ov} (ho : OvOk 800000 o) (hne : o ≠ .no) {x3 : Sl} : ∀ (js : List Nat) (N : List Ov) (s6 s7 : Sl), (∀ j ∈ js, j < d.length) → (∀ q ∈ N, Ab q.rest) → F.length + N.length + js.length ≤ 1000000 →
    ∃ t6 t7, forK (.nm 6) (exs S (Gn S defs (k + 3)) b__law_reach_3) [.d (encD d), .d (.int n), .d (.lst (F.map encO)), x3, .l (N.map encO), .d (encO o), s6, s7] (js.map fun j => D.int (j : Nat)) = some (.nx [.d (encD d), .d (.int n), .d (.lst (F.map encO)), x3, .l (((js.map (nx d o)).foldl (addN n F) N).map encO), .d (encO o), t6, t7]) ∧ ∀ q ∈ (js.map (nx d o)).foldl (addN n F) N, Ab q.rest
  | [], N, s6, s7, _, hN, _ => ⟨s6, s7, rfl, hN⟩
  | j :: js, N, s6, s7, hj, hN, hl => by
    rw [List.length_cons] at hl
    have h0 := hj j List.mem_cons_self
    have step := lr_one k hd hF hN (by omega) ho hne h0 (n := n) (x3 := x3) (s7 := s7)
    obtain ⟨t6, t7, e, hab⟩ := lr_row k hd hF ho hne js (addN n F N (nx d o j)) (.d (.int j)) (.d (encO (nx d o j))) (fun i hi => hj i (List.mem_cons_of_mem _ hi)) (addN_ab hN (nx_ok hd ho h0).1) (by have := addN_len (n := n) (F := F) (N := N) (g := nx d o j); omega) (n := n) (x3 := x3)
    exact ⟨t6, t7, by rw [List.map_cons, forK_step asg_nm step, List.map_cons, List.foldl_cons]; exact e, hab⟩
def gsO (d : Deal) (o : Ov) : List Ov := (List.range d.length).map (nx d o)
theorem lr_out (k : Nat) {d : Deal} (hd : GoodD d) {n : Nat} {F : List Ov} (hF : ∀ q ∈ F, Ab q.rest) {x3 : Sl} : ∀ (os N : List Ov) (s5 s6 s7 : Sl), (∀ o ∈ os, OvOk 800000 o ∧ o ≠ .no) → (∀ q ∈ N, Ab q.rest) → F.length + N.length + 4 * os.length ≤ 1000000 →
    ∃ t5 t6 t7, forK (.nm 5) (exs S (Gn S defs (k + 3)) b__law_reach_2) [.d (encD d), .d (.int n), .d (.lst (F.map encO)), x3, .l (N.map encO), s5, s6, s7] (os.map encO) = some (.nx [.d (encD d), .d (.int n), .d (.lst (F.map encO)), x3, .l (((os.map (gsO d)).flatten.foldl (addN n F) N).map encO), t5, t6, t7])
  | [], N, s5, s6, s7, _, _, _ => ⟨s5, s6, s7, rfl⟩
  | o :: os, N, s5, s6, s7, ho, hN, hl => by
    rw [List.length_cons] at hl
    obtain ⟨h1, h2⟩ := ho o List.mem_cons_self
    have h4 := hd.2.1
    have ln : lenD [encD d] = some (.int (d.length : Nat)) := by unfold encD; rw [len_tup, List.length_map]
    obtain ⟨t6, t7, e, hab⟩ := lr_row k hd hF h1 h2 (List.range d.length) N s6 s7 (fun j hj => List.mem_range.mp hj) hN (by rw [List.length_range]; omega) (n := n) (x3 := x3)
    have hlen : ((gsO d o).foldl (addN n F) N).length ≤ N.length + 4 := by
      have : ∀ (gs N : List Ov), (gs.foldl (addN n F) N).length ≤ N.length + gs.length := fun gs => by
        induction gs with
        | nil => exact fun N => Nat.le_refl _
        | cons g gs ih =>
          intro N
          rw [List.foldl_cons, List.length_cons]
          have a := ih (addN n F N g)
          have b := addN_len (n := n) (F := F) (N := N) (g := g)
          omega
      have := this (gsO d o) N
      unfold gsO at this ⊢
      rw [List.length_map, List.length_range] at this
      omega
    obtain ⟨u5, u6, u7, ih⟩ := lr_out k hd hF os ((gsO d o).foldl (addN n F) N) (.d (encO o)) t6 t7 (fun x hx => ho x (List.mem_cons_of_mem _ hx)) hab (by omega) (n := n) (x3 := x3)
    refine ⟨u5, u6, u7, ?_⟩
    rw [List.map_cons, forK_step asg_nm (ρ2 := [.d (encD d), .d (.int n), .d (.lst (F.map encO)), x3, .l (((gsO d o).foldl (addN n F) N).map encO), .d (encO o), t6, t7]) (by
      simp only [b__law_reach_2, EVa, glo_LETTERS, glo_EVEN, ln]
      rw [rng1K_of (by omega), Int.toNat_natCast, rng0]
      simp only [EVa, glo_LETTERS, glo_EVEN, e]
      rfl), ih, List.map_cons, List.flatten_cons, List.foldl_append]
structure RL (d : Deal) (n : Nat) (F La : List Ov) : Prop where
  nd : F.Nodup
  ok : ∀ p ∈ F, Rch d n p
  fr : ∀ p ∈ La, p = .even ∨ p ∈ F
  cl : ∀ o, (o = .even ∨ o ∈ F) → o ∉ La → ∀ g ∈ goalsL d o, g ≠ .even → g.rest.length ≤ n → g ∈ F
  nl : La.length ≤ 1101
theorem RL.start (d : Deal) (n : Nat) : RL d n [] [.even] := ⟨List.nodup_nil, fun p h => absurd h List.not_mem_nil, fun p hp => .inl (List.mem_singleton.mp hp), fun o ho h => absurd (ho.elim (fun z => z ▸ List.mem_singleton_self _) fun z => absurd z List.not_mem_nil) h, by simp⟩
theorem RL.len {d : Deal} (hd : GoodD d) {n : Nat} (hn : n ≤ 8) {F : List Ov} (h1 : F.Nodup) (h2 : ∀ p ∈ F, Rch d n p) : F.length ≤ 1100 := Nat.le_trans (nodup_len h1 fun p hp => mem_allO ((h2 p hp).mid hd) hn) allO_len
theorem RL.all {d : Deal} {n : Nat} {F : List Ov} (h : RL d n F []) (p : Ov) : p ∈ F ↔ Rch d n p := by
  refine ⟨h.ok p, fun r => ?_⟩
  induction r with
  | first h1 h2 h3 => exact h.cl .even (.inl rfl) List.not_mem_nil _ h1 h2 h3
  | next h1 h2 h3 h4 ih => exact h.cl _ (.inr ih) List.not_mem_nil _ h2 h3 h4
theorem RL.next {d : Deal} (hd : GoodD d) {n : Nat} (hn : n ≤ 8) {F La : List Ov} (h : RL d n F La) : RL d n (F ++ (La.map (gsO d)).flatten.foldl (addN n F) []) ((La.map (gsO d)).flatten.foldl (addN n F) []) := by
  obtain ⟨M, m1, m2, m3, m4⟩ := foldN n F (La.map (gsO d)).flatten [] (by rw [List.append_nil]; exact h.nd)
  rw [List.nil_append] at m1 m2 m4
  rw [m1]
  have led : ∀ g ∈ (La.map (gsO d)).flatten, ∃ o ∈ La, ∃ j, j < d.length ∧ g = nx d o j := fun g hg => by
    obtain ⟨l, hl, hg⟩ := List.mem_flatten.mp hg
    obtain ⟨o, ho, rfl⟩ := List.mem_map.mp hl
    obtain ⟨j, hj, rfl⟩ := List.mem_map.mp hg
    exact ⟨o, ho, j, List.mem_range.mp hj, rfl⟩
  have rM : ∀ p ∈ M, Rch d n p := fun p hp => by
    obtain ⟨hg, h1, h2, h3⟩ := m3 p hp
    obtain ⟨o, ho, j, hj, rfl⟩ := led p hg
    have hgo : nx d o j ∈ goalsL d o := mem_goals.mpr ⟨h1, j, hj, rfl⟩
    have hne : nx d o j ≠ .even := fun z => by rw [z] at h2; exact absurd h2 (by decide)
    rcases h.fr o ho with rfl | hoF
    · exact .first hgo hne h3
    · exact .next (h.ok o hoF) hgo hne h3
  have ok' : ∀ p ∈ F ++ M, Rch d n p := fun p hp => (List.mem_append.mp hp).elim (h.ok p) (rM p)
  refine ⟨m2, ok', fun p hp => .inr (List.mem_append_right _ hp), fun o ho hnm g hg h1 h2 => ?_, ?_⟩
  · have ho' : o = .even ∨ o ∈ F := ho.imp id fun z => (List.mem_append.mp z).resolve_right hnm
    by_cases c : o ∈ La
    · obtain ⟨g1, j, hj, rfl⟩ := mem_goals.mp hg
      refine m4 _ (List.mem_flatten.mpr ⟨gsO d o, List.mem_map.mpr ⟨o, c, rfl⟩, List.mem_map.mpr ⟨j, List.mem_range.mpr hj, rfl⟩⟩) ⟨g1, ?_, h2⟩
      exact List.length_pos_iff.mpr (nx_rest g1 h1)
    · exact List.mem_append_left _ (h.cl o ho' c g hg h1 h2)
  · have := RL.len hd hn m2 ok'
    rw [List.length_append] at this
    omega
theorem ne_nilO {L : List Ov} (hL : ∀ q ∈ L, Ab q.rest) : neD (.lst (L.map encO)) (.lst []) = some (.bl (!L.isEmpty)) := by
  rw [ne_of' (n := 3) (m := 1) (clean_lst fun x hx => by
    obtain ⟨q, hq, rfl⟩ := List.mem_map.mp hx
    exact nic_gdp 2 _ (ov_nic (hL q hq))) (clean_lst (n := 0) fun x hx => absurd hx List.not_mem_nil) (by omega) (by omega), deq_lst]
  cases L <;> rfl
theorem lr_loop (k : Nat) {d : Deal} (hd : GoodD d) {n : Nat} (hn : n ≤ 8) : ∀ (m : Nat) (F La : List Ov) (fuel : Nat) (s4 s5 s6 s7 : Sl), RL d n F La → (La = [] ∨ 1101 ≤ F.length + m) → m + 2 ≤ fuel →
    ∃ F' t3 t4 t5 t6 t7, RL d n F' [] ∧ gwhE (ft (ev S (Gn S defs (k + 3)) (.cmp .ne (.var 3) (.lst .nil)))) (exs S (Gn S defs (k + 3)) b__law_reach_1) fuel [.d (encD d), .d (.int n), .d (.lst (F.map encO)), .d (.lst (La.map encO)), s4, s5, s6, s7] = some (.nx [.d (encD d), .d (.int n), .d (.lst (F'.map encO)), t3, t4, t5, t6, t7]) := by
  have ab : ∀ {F La : List Ov}, RL d n F La → (∀ q ∈ F, Ab q.rest) ∧ ∀ q ∈ La, OvOk 800000 q ∧ q ≠ .no := fun {F La} h => by
    have hF : ∀ q ∈ F, Mid n q := fun q hq => (h.ok q hq).mid hd
    refine ⟨fun q hq => (hF q hq).2.2.2.1, fun q hq => ?_⟩
    rcases h.fr q hq with rfl | z
    · exact ⟨⟨Ab.nil, Nat.zero_le _⟩, fun z => nomatch z⟩
    · have := hF q z
      exact ⟨⟨this.2.2.2.1, by have := this.2.2.2.2; omega⟩, this.1⟩
  have test : ∀ (F La : List Ov) (s4 s5 s6 s7 : Sl), RL d n F La → ft (ev S (Gn S defs (k + 3)) (.cmp .ne (.var 3) (.lst .nil))) [.d (encD d), .d (.int n), .d (.lst (F.map encO)), .d (.lst (La.map encO)), s4, s5, s6, s7] = some (!La.isEmpty) := fun F La s4 s5 s6 s7 h => by
    unfold ft
    simp only [EVa, glo_LETTERS, glo_EVEN, ne_nilO fun q hq => ((ab h).2 q hq).1.1]
  intro m
  induction m with
  | zero =>
    intro F La fuel s4 s5 s6 s7 h hm hf
    obtain ⟨f, rfl⟩ : ∃ f, fuel = f + 1 := ⟨fuel - 1, by omega⟩
    have hl := RL.len hd hn h.nd h.ok
    obtain rfl : La = [] := hm.resolve_right (by omega)
    refine ⟨F, .d (.lst []), s4, s5, s6, s7, h, ?_⟩
    unfold gwhE
    rw [test F [] _ _ _ _ h]
    rfl
  | succ m ih =>
    intro F La fuel s4 s5 s6 s7 h hm hf
    obtain ⟨f, rfl⟩ : ∃ f, fuel = f + 1 := ⟨fuel - 1, by omega⟩
    by_cases he : La = []
    · subst he
      refine ⟨F, .d (.lst []), s4, s5, s6, s7, h, ?_⟩
      unfold gwhE
      rw [test F [] _ _ _ _ h]
      rfl
    · have hl := RL.len hd hn h.nd h.ok
      have hnl := h.nl
      have hie : La.isEmpty = false := List.isEmpty_eq_false_iff.mpr he
      obtain ⟨t5, t6, t7, e⟩ := lr_out k hd (ab h).1 La [] s5 s6 s7 (ab h).2 (fun q hq => absurd hq List.not_mem_nil) (by simp; omega) (n := n) (x3 := .d (.lst (La.map encO)))
      have h' := RL.next hd hn h
      generalize hN : (La.map (gsO d)).flatten.foldl (addN n F) [] = N at e h'
      have hl' := RL.len hd hn h'.nd h'.ok
      rw [List.length_append] at hl'
      have step : exs S (Gn S defs (k + 3)) b__law_reach_1 [.d (encD d), .d (.int n), .d (.lst (F.map encO)), .d (.lst (La.map encO)), s4, s5, s6, s7] = some (.nx [.d (encD d), .d (.int n), .d (.lst ((F ++ N).map encO)), .d (.lst (N.map encO)), .d (.lst (N.map encO)), t5, t6, t7]) := by
        have had : addD (.lst (F.map encO)) (.lst (N.map encO)) = some (.lst ((F ++ N).map encO)) := by rw [add_lst (by simp; omega), List.map_append]
        simp only [b__law_reach_1, EVa, glo_LETTERS, glo_EVEN, small_0]
        have e' : forK (.nm 5) (exs S (Gn S defs (k + 3)) b__law_reach_2) [.d (encD d), .d (.int n), .d (.lst (F.map encO)), .d (.lst (La.map encO)), .l [], s5, s6, s7] (La.map encO) = _ := e
        simp only [e', EVa, glo_LETTERS, glo_EVEN, had]
      obtain ⟨F', t3, t4, u5, u6, u7, r1, r2⟩ := ih (F ++ N) N f (.d (.lst (N.map encO))) t5 t6 t7 h' (by
        by_cases hz : N = []
        · exact .inl hz
        · have := List.length_pos_iff.mpr hz
          rw [List.length_append]
          exact .inr (by have := hm.resolve_left he; omega)) (by omega)
      refine ⟨F', t3, t4, u5, u6, u7, r1, ?_⟩
      show (ft (ev S (Gn S defs (k + 3)) (.cmp .ne (.var 3) (.lst .nil))) [.d (encD d), .d (.int n), .d (.lst (F.map encO)), .d (.lst (La.map encO)), s4, s5, s6, s7]).bind _ = _
      rw [test F La _ _ _ _ h, hie]
      show (exs S (Gn S defs (k + 3)) b__law_reach_1 [.d (encD d), .d (.int n), .d (.lst (F.map encO)), .d (.lst (La.map encO)), s4, s5, s6, s7]).bind _ = _
      rw [step]
      exact r2
theorem G_lreach (k : Nat) {d : Deal} (hd : GoodD d) {n : Nat} (hn : n ≤ 8) : ∃ L, IsReach d n L ∧ Gn S defs (k + 4) 20 [encD d, .int (n : Nat)] = some (.tup (L.map encO)) := by
  obtain ⟨F', t3, t4, t5, t6, t7, r1, r2⟩ := lr_loop k hd hn 1101 [] [.even] 100000 .no .no .no .no (RL.start d n) (.inr (by simp)) (by omega)
  obtain ⟨L, l1, l2, l3⟩ := sort_overs r1.nd fun p hp => ((r1.ok p hp).mid hd).1
  refine ⟨L, ⟨l2, fun p => (l3 p).trans (r1.all p)⟩, ?_⟩
  obtain ⟨q1, q2⟩ := seqOk_overs (L := F') fun p hp => ⟨((r1.ok p hp).mid hd).1, ((r1.ok p hp).mid hd).2.2.2.1⟩
  have hl := RL.len hd hn r1.nd r1.ok
  have hs : sortY [.lst (F'.map encO)] = some (.lst (L.map encO)) := by
    show (if (seqOk (F'.map encO) && (F'.map encO).all isTNE && decide ((F'.map encO).length ≤ sizeLine)) = true then some (D.lst ((F'.map encO).mergeSort (PySem.W.dataLe false toPy))) else none) = _
    rw [q1, q2, decide_eq_true (by rw [List.length_map, PySem.sizeLine_eq]; omega), l1]
    rfl
  rw [un__law_reach]
  simp only [d__law_reach, EVa, glo_LETTERS, glo_EVEN, ex_whE]
  have r2' : gwhE (ft (ev S (Gn S defs (k + 3)) (.cmp .ne (.var 3) (.lst .nil)))) (exs S (Gn S defs (k + 3)) b__law_reach_1) 100000 [.d (encD d), .d (.int n), .d (.lst []), .d (.lst [.tup [.str [101, 118, 101, 110], .str []]]), .no, .no, .no, .no] = _ := r2
  rw [r2']
  simp only [EVa, glo_LETTERS, glo_EVEN, hs]
/-! all rows that go on, by going through them -/
theorem rowsT_f (d : Deal) (t : Nat) : rowsT d false (t + 1) = ((rowsT d false t).map (kidsR d)).flatten := by
  show ((rowsT d false t).map fun r => if goesOn false t (ovR d r) then kidsR d r else []).flatten = _
  congr 1
  apply List.map_congr_left
  intro r _
  rw [if_pos goesOn_f]
theorem row_to {r : Row} {j : Nat} : slcD none (some (j : Int)) (encR r) = some (encR (r.take j)) := by
  unfold encR
  rw [slc_tup, cut_to, List.map_take]
theorem rng1 (n : Nat) : rngD 1 n = ((List.range n).map fun i => 1 + i).map fun j : Nat => D.int (j : Nat) := by
  rw [rngD_map, List.map_map]
  apply List.map_congr_left
  intro i _
  show D.int (1 + (i : Int)) = D.int ((1 + i : Nat) : Int)
  congr 1
/-! papers of what is reached -/
theorem in_overs {p : Ov} {L : List Ov} (hp : Ab p.rest) (hL : ∀ q ∈ L, Ab q.rest) : inD (encO p) (.tup (L.map encO)) = some (.bl (decide (p ∈ L))) := by
  rw [in_tup (n := 2) (m := 3) (nic_gdp 2 _ (ov_nic hp)) (clean_tup fun x hx => by
    obtain ⟨q, hq, rfl⟩ := List.mem_map.mp hx
    exact nic_gdp 2 _ (ov_nic (hL q hq))) (by omega) (by omega)]
  congr 2
  rw [Bool.eq_iff_iff, decide_eq_true_eq]
  exact any_map_mem (fun x y => encO_inj) L p
theorem in_oversL {p : Ov} {L : List Ov} (hp : Ab p.rest) (hL : ∀ q ∈ L, Ab q.rest) : inD (encO p) (.lst (L.map encO)) = some (.bl (decide (p ∈ L))) := by
  rw [in_lst (n := 2) (m := 3) (nic_gdp 2 _ (ov_nic hp)) (clean_lst fun x hx => by
    obtain ⟨q, hq, rfl⟩ := List.mem_map.mp hx
    exact nic_gdp 2 _ (ov_nic (hL q hq))) (by omega) (by omega)]
  congr 2
  rw [Bool.eq_iff_iff, decide_eq_true_eq]
  exact any_map_mem (fun x y => encO_inj) L p
theorem nin_overs {p : Ov} {L : List Ov} (hp : Ab p.rest) (hL : ∀ q ∈ L, Ab q.rest) : ninD (encO p) (.tup (L.map encO)) = some (.bl (!decide (p ∈ L))) := by
  rw [nin_tup (n := 2) (m := 3) (nic_gdp 2 _ (ov_nic hp)) (clean_tup fun x hx => by
    obtain ⟨q, hq, rfl⟩ := List.mem_map.mp hx
    exact nic_gdp 2 _ (ov_nic (hL q hq))) (by omega) (by omega)]
  congr 3
  rw [Bool.eq_iff_iff, decide_eq_true_eq]
  exact any_map_mem (fun x y => encO_inj) L p
def closedB (d : Deal) (L : List Ov) : Bool := (.even :: L).all fun o => (goalsL d o).all fun g => decide (g ∈ L)
theorem closed_iff {d : Deal} {L : List Ov} : closedB d L = true ↔ ∀ o, (o = .even ∨ o ∈ L) → ∀ g ∈ goalsL d o, g ∈ L := by
  unfold closedB
  simp only [List.all_eq_true, List.mem_cons, decide_eq_true_eq]
theorem closed_one (k : Nat) {d : Deal} (hd : GoodD d) {L : List Ov} (hL : ∀ q ∈ L, Ab q.rest) {o : Ov} (ho : OvOk 700000 o) (hon : o ≠ .no) {s3 : Sl} :
    exs S (Gn S defs (k + 4)) b_is_closed_1 [.d (encD d), .d (.tup (L.map encO)), .d (encO o), s3] = some (if (goalsL d o).all (fun g => decide (g ∈ L)) then .nx [.d (encD d), .d (.tup (L.map encO)), .d (encO o), s3] else .rt (.bl false)) := by
  have hg := goals_len hd o
  simp only [b_is_closed_1, EVa, glo_LETTERS, glo_EVEN, G_goals k hd (⟨ho.1, by have := ho.2; omega⟩ : OvOk 800000 o) hon]
  rw [compK_all (e := encO) (g := fun g => D.bl (decide (g ∈ L))) (by omega) (fun g hg => ⟨_, asg_nm, evC_none, by
    simp only [EVa, glo_LETTERS, glo_EVEN]
    exact in_overs (goal_ok hd ho hg).1 hL⟩)]
  simp only [EVa, glo_LETTERS, glo_EVEN]
  rw [map_bl]
  simp only [EVa, glo_LETTERS, glo_EVEN, all_map_id]
  cases (goalsL d o).all fun g => decide (g ∈ L) with
  | true => simp only [Bool.not_true, EVa, glo_LETTERS, glo_EVEN]; rfl
  | false => simp only [Bool.not_false, EVa, glo_LETTERS, glo_EVEN]; rfl
theorem closed_loop (k : Nat) {d : Deal} (hd : GoodD d) {L : List Ov} (hL : ∀ q ∈ L, Ab q.rest) : ∀ (os : List Ov) (s2 s3 : Sl), (∀ o ∈ os, OvOk 700000 o ∧ o ≠ .no) →
    ∃ t2, forK (.nm 2) (exs S (Gn S defs (k + 4)) b_is_closed_1) [.d (encD d), .d (.tup (L.map encO)), s2, s3] (os.map encO) = some (if os.all (fun o => (goalsL d o).all fun g => decide (g ∈ L)) then .nx [.d (encD d), .d (.tup (L.map encO)), t2, s3] else .rt (.bl false))
  | [], s2, s3, _ => ⟨s2, rfl⟩
  | o :: os, s2, s3, h => by
    obtain ⟨h1, h2⟩ := h o List.mem_cons_self
    have step := closed_one k hd hL h1 h2 (s3 := s3)
    have h0 : asg (.nm 2) (encO o) [.d (encD d), .d (.tup (L.map encO)), s2, s3] = some [.d (encD d), .d (.tup (L.map encO)), .d (encO o), s3] := by rw [asg_nm]; rfl
    rw [List.map_cons, List.all_cons]
    cases e : (goalsL d o).all fun g => decide (g ∈ L) with
    | true =>
      rw [e, if_pos rfl] at step
      obtain ⟨t2, ih⟩ := closed_loop k hd hL os (.d (encO o)) s3 fun x hx => h x (List.mem_cons_of_mem _ hx)
      exact ⟨t2, by rw [forK_step h0 step, ih, Bool.true_and]⟩
    | false =>
      rw [e, if_neg Bool.false_ne_true] at step
      exact ⟨s2, by rw [forK_out h0 step, Bool.false_and, if_neg Bool.false_ne_true]⟩
theorem G_closed (k : Nat) {d : Deal} (hd : GoodD d) {L : List Ov} (hL : ∀ q ∈ L, OvOk 700000 q ∧ q ≠ .no) (hl : L.length ≤ 100000) : Gn S defs (k + 5) 5 [encD d, .tup (L.map encO)] = some (.bl (closedB d L)) := by
  rw [un_is_closed]
  simp only [d_is_closed, EVa, glo_LETTERS, glo_EVEN, glo_EVEN]
  rw [add_lst (by simp; omega)]
  simp only [EVa, glo_LETTERS, glo_EVEN]
  obtain ⟨t2, e⟩ := closed_loop k hd (fun q hq => (hL q hq).1.1) (.even :: L) .no .no (fun o ho => by
    rcases List.mem_cons.mp ho with rfl | ho
    · exact ⟨⟨Ab.nil, Nat.zero_le _⟩, fun z => nomatch z⟩
    · exact hL o ho)
  have e' : forK (.nm 2) (exs S (Gn S defs (k + 4)) b_is_closed_1) [.d (encD d), .d (.tup (L.map encO)), .no, .no] (.tup [.str sEven, .str []] :: L.map encO) = _ := e
  rw [e']
  show ((some (if closedB d L = true then _ else _)).bind _).bind finR = _
  cases closedB d L with
  | true => rw [if_pos rfl]; simp only [EVa, glo_LETTERS, glo_EVEN]
  | false => rw [if_neg Bool.false_ne_true]; simp only [EVa, glo_LETTERS, glo_EVEN]
theorem G_is_over (k : Nat) {n : Nat} {p : Ov} (h : Mid n p) (hn : n ≤ 700000) : Gn S defs (k + 1) 3 [encO p] = some (.bl true) := by
  obtain ⟨h1, h2, h3, h4, h5⟩ := h
  rw [un_is_over, enc_pair h1]
  simp only [d_is_over, EVa, glo_LETTERS, glo_EVEN, List.length_cons, List.length_nil]
  have e2 : decide (((0 + 1 + 1 : Nat) : Int) = 2) = true := by decide
  simp only [e2, Bool.not_true, EVa, glo_LETTERS, glo_EVEN]
  rw [show ([D.str (lab p), D.str p.rest] : List D) = [lab p, p.rest].map D.str from rfl, compK_all (e := D.str) (g := fun _ => D.bl true) (by simp) (fun w hw => ⟨_, asg_nm, evC_none, by simp only [EVa, glo_LETTERS, glo_EVEN]⟩)]
  simp only [EVa, glo_LETTERS, glo_EVEN]
  rw [show ([lab p, p.rest].map fun _ => D.bl true) = [true, true].map D.bl from rfl]
  simp only [EVa, glo_LETTERS, glo_EVEN]
  have e3 : ([true, true].all id) = true := rfl
  rw [e3]
  simp only [Bool.not_true, EVa, glo_LETTERS, glo_EVEN, List.map_cons, List.map_nil, at_0, at_1]
  have hlab : inD (.str (lab p)) (.tup [.str sAbove, .str sBelow]) = some (.bl true) := by
    have g2 : gdp 2 (.tup [.str sAbove, .str sBelow]) = true := nic_gdp 2 _ (pair_nic lab_ok.2.1 lab_ok.2.2)
    cases p with
    | no => exact absurd rfl h1
    | even => exact absurd rfl h2
    | ab r => show inD (.str sAbove) _ = _; rw [in_tup (n := 1) (m := 2) (clean_str lab_ok.2.1) g2 (by omega) (by omega)]; simp [deq_str]
    | be r => show inD (.str sBelow) _ = _; rw [in_tup (n := 1) (m := 2) (clean_str lab_ok.2.2) g2 (by omega) (by omega)]; simp [deq_str]
  have hne : neD (.str p.rest) (.str []) = some (.bl true) := by
    rw [DL.ne_str h4.ok (fun c hc => absurd hc List.not_mem_nil), decide_eq_false h3]
    rfl
  simp only [hlab, hne, EVa, glo_LETTERS, glo_EVEN, glo_LETTERS, at_1]
  rw [compK_all (e := fun c : Nat => D.str [c]) (g := fun _ => D.bl true) (by omega) (fun c hc => ⟨_, asg_nm, evC_none, by
    simp only [EVa, glo_LETTERS, glo_EVEN, glo_LETTERS, in_sign]
    have : c ∈ [97, 98] := by rcases h4 c hc with rfl | rfl <;> simp
    rw [decide_eq_true this]⟩)]
  simp only [EVa, glo_LETTERS, glo_EVEN]
  rw [show (p.rest.map fun _ => D.bl true) = (p.rest.map fun _ => true).map D.bl by rw [List.map_map]; rfl]
  simp only [EVa, glo_LETTERS, glo_EVEN]
  have : (p.rest.map fun _ => true).all id = true := by rw [List.all_eq_true]; intro b hb; obtain ⟨_, _, rfl⟩ := List.mem_map.mp hb; rfl
  rw [this]
theorem lt_overs {p q : Ov} (hp : p ≠ .no ∧ Ab p.rest) (hq : q ≠ .no ∧ Ab q.rest) : ltY (encO p) (encO q) = some (.bl (dlt (encO p) (encO q))) := by
  have c1 : cmpOk (encO p) (encO q) = true := by
    have g1 := gdp_ok 2 _ (nic_gdp 2 _ (ov_nic hp.2 (n := 1)))
    have g2 := gdp_ok 2 _ (nic_gdp 2 _ (ov_nic hq.2 (n := 1)))
    unfold cmpOk
    rw [g1.1, g2.1, decide_eq_true (by omega)]
    rw [enc_pair hp.1, enc_pair hq.1, alike_pair]
    rfl
  have e : ltY (encO p) (encO q) = ltX (encO p) (encO q) := by rw [enc_pair hp.1, enc_pair hq.1]; rfl
  rw [e]
  unfold ltX
  rw [c1, if_pos rfl]
theorem pair_at {L : List Ov} {i : Nat} (h : i < L.length) : atI (L.map encO) (i : Int) = some (encO L[i]) := by
  rw [atI_map, atI_nat', List.getElem?_eq_getElem h]
  rfl
theorem G_is_paper (k : Nat) {d : Deal} (hd : GoodD d) {n : Nat} (hn : n ≤ 700000) {L : List Ov} (hL : ∀ q ∈ L, Mid n q) (hs : L.Pairwise olt) (hl : L.length ≤ 100000) : Gn S defs (k + 6) 6 [encD d, .tup (L.map encO)] = some (.bl (closedB d L)) := by
  rw [un_is_paper]
  simp only [d_is_paper, EVa, glo_LETTERS, glo_EVEN, Bool.not_true]
  rw [compK_all (e := encO) (g := fun _ => D.bl true) (by omega) (fun p hp => ⟨_, asg_nm, evC_none, by
    simp only [EVa, glo_LETTERS, glo_EVEN]
    exact G_is_over (k + 4) (hL p hp) hn⟩)]
  simp only [EVa, glo_LETTERS, glo_EVEN]
  rw [show (L.map fun _ => D.bl true) = (L.map fun _ => true).map D.bl by rw [List.map_map]; rfl]
  simp only [EVa, glo_LETTERS, glo_EVEN]
  have h1 : (L.map fun _ => true).all id = true := by rw [List.all_eq_true]; intro b hb; obtain ⟨_, _, rfl⟩ := List.mem_map.mp hb; rfl
  rw [h1]
  simp only [Bool.not_true, EVa, glo_LETTERS, glo_EVEN, List.length_map]
  rw [rng2K_of (by omega)]
  have hnn : (((L.length : Nat) : Int) - 1).toNat = L.length - 1 := by omega
  rw [hnn, rng1]
  simp only [EVa, glo_LETTERS, glo_EVEN]
  rw [List.map_map, compK_all (e := (fun j : Nat => D.int (j : Nat)) ∘ fun i => 1 + i) (g := fun _ => D.bl true) (by simp; omega) (fun i hi => ⟨_, asg_nm, evC_none, by
    have hi := List.mem_range.mp hi
    have b1 : i < L.length := by omega
    have b2 : i + 1 < L.length := by omega
    have p1 := hL _ (List.getElem_mem b1)
    have p2 := hL _ (List.getElem_mem b2)
    simp only [EVa, glo_LETTERS, glo_EVEN, Function.comp, show ((i + 1 : Nat) : Int) - 1 = ((i : Nat) : Int) by omega, pair_at b1, show ((1 + i : Nat) : Int) = ((i + 1 : Nat) : Int) by omega, pair_at b2, lt_overs ⟨p1.1, p1.2.2.2.1⟩ ⟨p2.1, p2.2.2.2.1⟩]
    have : dlt (encO L[i]) (encO L[i + 1]) = true := List.pairwise_iff_getElem.mp hs i (i + 1) b1 b2 (by omega)
    rw [this]⟩)]
  simp only [EVa, glo_LETTERS, glo_EVEN]
  rw [show ((List.range (L.length - 1)).map fun _ => D.bl true) = ((List.range (L.length - 1)).map fun _ => true).map D.bl by rw [List.map_map]; rfl]
  simp only [EVa, glo_LETTERS, glo_EVEN]
  have h2 : ((List.range (L.length - 1)).map fun _ => true).all id = true := by rw [List.all_eq_true]; intro b hb; obtain ⟨_, _, rfl⟩ := List.mem_map.mp hb; rfl
  rw [h2]
  simp only [Bool.not_true, EVa, glo_LETTERS, glo_EVEN]
  rw [G_closed k hd (fun q hq => ⟨⟨(hL q hq).2.2.2.1, by have := (hL q hq).2.2.2.2; omega⟩, (hL q hq).1⟩) hl]
  simp only [EVa, glo_LETTERS, glo_EVEN]
def encOL : Option (List Ov) → D
  | none => .non
  | some L => .tup (L.map encO)
theorem IsReach.mid {d : Deal} (hd : GoodD d) {n : Nat} {L : List Ov} (h : IsReach d n L) : ∀ q ∈ L, Mid n q := fun q hq => ((h.2 q).mp hq).mid hd
theorem G_paper (k : Nat) {d : Deal} (hd : GoodD d) {n : Nat} (hn : n ≤ 8) {L : List Ov} (h : IsReach d n L) : Gn S defs (k + 7) 8 [encD d, .int (n : Nat)] = some (encOL (if closedB d L then some L else none)) := by
  obtain ⟨M, h1, h2⟩ := G_reach (k + 1) hd hn
  have := h1.uniq h
  subst this
  have hp := G_is_paper k hd (by omega) (h.mid hd) h.1 (by have := h.len hd hn; omega)
  rw [un_paper]
  simp only [d_paper, EVa, glo_LETTERS, glo_EVEN, h2, hp]
  cases closedB d M with
  | true => simp only [Bool.not_true, EVa, glo_LETTERS, glo_EVEN]; rfl
  | false => simp only [Bool.not_false, EVa, glo_LETTERS, glo_EVEN]; rfl
abbrev sCommon : Word := [99, 111, 109, 109, 111, 110]
abbrev sNone : Word := [110, 111, 110, 101]
abbrev sOpen : Word := [111, 112, 101, 110]
def hitB (d : Deal) (L : List Ov) : Bool := (.even :: L).any fun o => decide (.even ∈ goalsL d o)
def wordO (d : Deal) (L : List Ov) : Word := if hitB d L then sCommon else if closedB d L then sNone else sOpen
theorem G_sorted_out (k : Nat) {d : Deal} (hd : GoodD d) {n : Nat} (hn : n ≤ 8) {L : List Ov} (h : IsReach d n L) : Gn S defs (k + 6) 9 [encD d, .int (n : Nat)] = some (.str (wordO d L)) := by
  obtain ⟨M, h1, h2⟩ := G_reach k hd hn
  have := h1.uniq h
  subst this
  have hm := h.mid hd
  have hl := h.len hd hn
  rw [un_sorted_out]
  simp only [d_sorted_out, EVa, glo_LETTERS, glo_EVEN, h2, glo_EVEN]
  rw [add_tup (by simp; omega)]
  simp only [EVa, glo_LETTERS, glo_EVEN]
  rw [show (D.tup [D.str [101, 118, 101, 110], D.str []] :: M.map encO) = (.even :: M).map encO from rfl, compK_all (e := encO) (g := fun o => D.bl (decide (.even ∈ goalsL d o))) (by simp; omega) (fun o ho => ⟨_, asg_nm, evC_none, by
    have hok : OvOk 8 o ∧ o ≠ .no := by
      rcases List.mem_cons.mp ho with rfl | ho
      · exact ⟨⟨Ab.nil, Nat.zero_le _⟩, fun z => nomatch z⟩
      · exact ⟨⟨(hm o ho).2.2.2.1, by have := (hm o ho).2.2.2.2; omega⟩, (hm o ho).1⟩
    simp only [EVa, glo_LETTERS, glo_EVEN, G_goals (k + 1) hd (⟨hok.1.1, by have := hok.1.2; omega⟩ : OvOk 800000 o) hok.2, glo_EVEN]
    exact in_oversL (p := .even) Ab.nil fun q hq => (goal_ok hd hok.1 hq).1⟩)]
  simp only [EVa, glo_LETTERS, glo_EVEN]
  rw [map_bl]
  simp only [EVa, glo_LETTERS, glo_EVEN, any_map_id]
  have e1 : ((.even :: M).any fun o => decide (.even ∈ goalsL d o)) = hitB d M := rfl
  rw [e1]
  unfold wordO
  cases hitB d M with
  | true => simp only [EVa, glo_LETTERS, glo_EVEN]; rfl
  | false =>
    simp only [EVa, glo_LETTERS, glo_EVEN, G_closed k hd (fun q hq => ⟨⟨(hm q hq).2.2.2.1, by have := (hm q hq).2.2.2.2; omega⟩, (hm q hq).1⟩) (show M.length ≤ 100000 by omega)]
    cases closedB d M with
    | true => simp only [EVa, glo_LETTERS, glo_EVEN]; rfl
    | false => simp only [EVa, glo_LETTERS, glo_EVEN]; rfl
/-! drawn rows -/
def rowF (cell : Int) (m : Nat) (n : Nat) : Row := (List.range n).map fun j => (mixF (cell + 11 * (j : Nat)) 9929 m).toNat
theorem mix_nat {cell prime : Int} {m : Nat} (hm : 0 < m) : ((mixF cell prime m).toNat : Int) = mixF cell prime m ∧ (mixF cell prime m).toNat < m := by
  have := mixF_lt (cell := cell) (prime := prime) (many := m) (by omega)
  omega
/-! a part changed, of long tuples -/
theorem mul2_lst {xs : List D} (h : xs.length ≤ 1000) : mulD (.lst xs) (.int 2) = some (.lst (xs ++ xs)) := by
  show (if (1 : Int) ≤ 2 ∧ (2 : Int) ≤ 1000 ∧ xs.length ≤ 1000 then _ else _) = _
  rw [if_pos ⟨by omega, by omega, h⟩]
  simp
theorem mul2_str {l : Word} (h : l.length ≤ 1000) : mulD (.str l) (.int 2) = some (.str (l ++ l)) := by
  show (if (2 : Int) ≤ 2 ∧ (2 : Int) ≤ 1000 ∧ l.length ≤ 1000 then _ else _) = _
  rw [if_pos ⟨by omega, by omega, h⟩]
  simp
def odd0 : List D := [.non, .bl true, .bl false, .int 0, .int 1, .int (-1), .int 2, .int 7, .int 10, .int 1000, .str [], .str [97], .str [65], .tup [], .tup [.str [97]], .lst [.int 1]]
theorem odd0_fd {B n : Nat} (hB : 1 ≤ B) : ∀ x ∈ odd0, fd B (n + 1) x = true := by
  intro x hx
  simp only [odd0, List.mem_cons, List.not_mem_nil, or_false] at hx
  have h97 : fd B n (.str [97]) = true := fd_str hB (by decide)
  rcases hx with rfl | rfl | rfl | rfl | rfl | rfl | rfl | rfl | rfl | rfl | rfl | rfl | rfl | rfl | rfl | rfl
  · exact fd_non
  · exact fd_bl
  · exact fd_bl
  · exact fd_int
  · exact fd_int
  · exact fd_int
  · exact fd_int
  · exact fd_int
  · exact fd_int
  · exact fd_int
  · exact fd_str (Nat.zero_le _) (by decide)
  · exact fd_str hB (by decide)
  · exact fd_str hB (by decide)
  · exact fd_tup (Nat.zero_le _) (by simp)
  · exact fd_tup hB (by intro y hy; rw [List.mem_singleton.mp hy]; exact h97)
  · exact fd_lst hB (by intro y hy; rw [List.mem_singleton.mp hy]; exact fd_int)
theorem odd_pick (k : Nat) {cell : Int} {xs : List D} {ρ : En} (h1 : 1 ≤ xs.length) : ∃ y ∈ xs, atI xs (mixF cell 9749 (xs.length : Nat)) = some y := by
  obtain ⟨e, h⟩ := mix_nat (cell := cell) (prime := 9749) (m := xs.length) (by omega)
  rw [← e, atI_nat', List.getElem?_eq_getElem h]
  exact ⟨_, List.getElem_mem h, rfl⟩
theorem fd_cut {B n : Nat} {l : Word} {lo hi : Option Int} (h : fd B n (.str l) = true) : fd B n (.str (cut l lo hi)) = true := by
  obtain ⟨h1, h2⟩ := fd_str_iff h
  exact fd_str (Nat.le_trans (cut_len _ _ _) h1) fun c hc => h2 c (mem_cut hc)
theorem odd_some (k : Nat) {cell : Int} {x : D} {s2 : Sl} {xs : List D} {P : D → Prop} (h1 : 1 ≤ xs.length) (h2 : ∀ y ∈ xs, P y) :
    ∃ y, P y ∧ ((Gn S defs (k + 1) 11 [.int cell, .int 9749, .int (xs.length : Nat)]).bind fun z => (idxD (.lst xs) z)) = some y := by
  obtain ⟨y, hy, e⟩ := odd_pick k (cell := cell) (ρ := []) h1
  refine ⟨y, h2 y hy, ?_⟩
  rw [G_mix k (by omega) (by omega) (by omega)]
  simp only [EVa, glo_LETTERS, glo_EVEN]
  exact e
mutual
def tsi : Nat → D → Bool
  | _, .int _ => true
  | _, .str l => decide (l.length ≤ 1000)
  | n, .tup xs => tsis n xs
  | _, .non => false
  | _, .bl _ => false
  | _, .lst _ => false
  | _, .scr _ => false
  | _, .dic _ _ => false
  | _, .btp _ => false
def tsis : Nat → List D → Bool
  | 0, _ => false
  | _ + 1, [] => true
  | n + 1, x :: xs => tsi n x && tsis (n + 1) xs
end
theorem tsis_all {n : Nat} : ∀ {xs : List D}, tsis (n + 1) xs = xs.all (tsi n)
  | [] => by rw [tsis]; rfl
  | x :: xs => by rw [tsis, tsis_all, List.all_cons]
def tlen : D → Nat
  | .tup xs => xs.length
  | _ => 0
theorem odd0_tl : ∀ x ∈ odd0, tlen x ≤ 1 := by
  intro x hx
  simp only [odd0, List.mem_cons, List.not_mem_nil, or_false] at hx
  rcases hx with rfl | rfl | rfl | rfl | rfl | rfl | rfl | rfl | rfl | rfl | rfl | rfl | rfl | rfl | rfl | rfl <;> simp [tlen]
theorem odd_fin (n : Nat) {B : Nat} (hB : 1 ≤ B) (cell : Int) (ys : List D) (hl : ys.length ≤ 30) (h : ∀ y ∈ ys, fd (2 * B + 2) (n + 1) y = true ∧ tlen y ≤ B + 1) : ∃ y, (fd (2 * B + 2) (n + 1) y = true ∧ tlen y ≤ B + 1) ∧ atI (odd0 ++ ys) (mixF cell 9749 ((odd0 ++ ys).length : Nat)) = some y := by
  obtain ⟨y, hy, e⟩ := odd_pick 0 (cell := cell) (ρ := []) (xs := odd0 ++ ys) (by simp [odd0])
  exact ⟨y, (List.mem_append.mp hy).elim (fun z => ⟨odd0_fd (by omega) y z, by have := odd0_tl y z; omega⟩) (h y), e⟩
theorem G_odd (k : Nat) {B : Nat} (hB : 1 ≤ B) (hB2 : B ≤ 5000) : ∀ (n : Nat) (x : D) (cell : Int), fd B n x = true → tsi n x = true → n ≤ 60 → ∃ y, (fd (2 * B + 2) (n + 1) y = true ∧ tlen y ≤ B + 1) ∧ Gn S defs (k + n + 2) 17 [x, .int cell] = some y := by
  intro n x
  cases x with
  | int i =>
    intro cell hx ht hn6
    rw [un__law_odd]
    obtain ⟨y, hy, e⟩ := odd_fin n hB cell ([.int (i + 1), .int (i - 1), .int (0 - i), .tup [.int i], .int (i + 2), .int (i * 2)] ++ [.int (i + 1), .int (i - 1), .int (0 - i), .tup [.int i], .int (i + 2), .int (i * 2)]) (by simp) (by
      intro y hy
      have : y ∈ [D.int (i + 1), .int (i - 1), .int (0 - i), .tup [.int i], .int (i + 2), .int (i * 2)] := by rcases List.mem_append.mp hy with z | z <;> exact z
      simp only [List.mem_cons, List.not_mem_nil, or_false] at this
      rcases this with rfl | rfl | rfl | rfl | rfl | rfl
      · exact ⟨fd_int, by simp [tlen]⟩
      · exact ⟨fd_int, by simp [tlen]⟩
      · exact ⟨fd_int, by simp [tlen]⟩
      · exact ⟨fd_tup (by show 1 ≤ _; omega) (by intro z hz; rw [List.mem_singleton.mp hz]; exact fd_int), by simp [tlen]⟩
      · exact ⟨fd_int, by simp [tlen]⟩
      · exact ⟨fd_int, by simp [tlen]⟩)
    refine ⟨y, hy, ?_⟩
    simp only [d__law_odd, EVa, glo_LETTERS, glo_EVEN, mul_r (show -(2 ^ 64) < (2 : Int) ∧ (2 : Int) < 2 ^ 64 by omega)]
    rw [mul2_lst (by simp)]
    simp only [EVa, glo_LETTERS, glo_EVEN]
    rw [add_lst (by simp)]
    simp only [EVa, glo_LETTERS, glo_EVEN]
    rw [G_mix (k + n) (by omega) (by omega) (by simp; try omega)]
    simp only [EVa, glo_LETTERS, glo_EVEN]
    simp only [odd0, EVa, glo_LETTERS, glo_EVEN] at e
    rw [e]
    simp only [EVa, glo_LETTERS, glo_EVEN]
  | str l =>
    intro cell hx ht hn6
    obtain ⟨h1, h2⟩ := fd_str_iff hx
    rw [tsi] at ht
    have h1k : l.length ≤ 1000 := of_decide_eq_true ht
    rw [un__law_odd]
    have u1 := upper_of h2 (by omega)
    obtain ⟨o, ho⟩ : ∃ o : List D, o = [.str (l ++ [97]), .str (cut l none (some (-1))), .str (l.map PyProof.Rows.up1), .str (l ++ [32]), .str (l ++ l), .lst [.str l], .str (l ++ cut l none (some 1))] := ⟨_, rfl⟩
    have hcl := cut_len l none (some 1)
    have hfo : ∀ y ∈ o, fd (2 * B + 2) (n + 1) y = true := by
      intro y hy
      subst ho
      simp only [List.mem_cons, List.not_mem_nil, or_false] at hy
      rcases hy with rfl | rfl | rfl | rfl | rfl | rfl | rfl
      · exact fd_str (by simp; omega) fun c hc => (List.mem_append.mp hc).elim (h2 c) fun z => by rw [List.mem_singleton.mp z]; omega
      · exact fd_str (by have := cut_len l none (some (-1)); omega) fun c hc => h2 c (mem_cut hc)
      · exact fd_str (by simp; omega) fun c hc => by obtain ⟨b, hb, rfl⟩ := List.mem_map.mp hc; exact up1_lt b (h2 b hb)
      · exact fd_str (by simp; omega) fun c hc => (List.mem_append.mp hc).elim (h2 c) fun z => by rw [List.mem_singleton.mp z]; omega
      · exact fd_str (by simp; omega) fun c hc => (List.mem_append.mp hc).elim (h2 c) (h2 c)
      · exact fd_lst (by show 1 ≤ _; omega) (by intro z hz; rw [List.mem_singleton.mp hz]; exact fd_str (by omega) h2)
      · exact fd_str (by simp; omega) fun c hc => (List.mem_append.mp hc).elim (h2 c) fun z => h2 c (mem_cut z)
    have hto : ∀ y ∈ o, tlen y ≤ B + 1 := by
      intro y hy
      subst ho
      simp only [List.mem_cons, List.not_mem_nil, or_false] at hy
      rcases hy with rfl | rfl | rfl | rfl | rfl | rfl | rfl <;> simp [tlen]
    have hol : o.length = 7 := by rw [ho]; rfl
    obtain ⟨y, hy, e⟩ := odd_fin n hB cell (o ++ o) (by simp; omega) (fun y hy => have z : y ∈ o := (List.mem_append.mp hy).elim id id; ⟨hfo y z, hto y z⟩)
    refine ⟨y, hy, ?_⟩
    simp only [d__law_odd, EVa, glo_LETTERS, glo_EVEN, add_str (show l.length + [97].length ≤ 16777216 by simp; omega), add_str (show l.length + [32].length ≤ 16777216 by simp; omega), slc_str (show l.length ≤ 16777216 by omega), u1, mul2_str (h1k), add_str (show l.length + (cut l none (some 1)).length ≤ 16777216 by omega)]
    rw [← ho, mul2_lst (by omega)]
    simp only [EVa, glo_LETTERS, glo_EVEN]
    rw [add_lst (by simp; omega)]
    simp only [EVa, glo_LETTERS, glo_EVEN]
    rw [G_mix (k + n) (by omega) (by omega) (by simp; try omega)]
    simp only [EVa, glo_LETTERS, glo_EVEN]
    simp only [odd0, EVa, glo_LETTERS, glo_EVEN] at e
    rw [e]
    simp only [EVa, glo_LETTERS, glo_EVEN]
  | tup xs =>
    intro cell hx ht hn6
    obtain ⟨m, rfl, h1, h2⟩ := fd_tup_iff hx
    rw [tsi, tsis_all, List.all_eq_true] at ht
    have hg := fd_gdp _ _ hx
    rw [un__law_odd]
    have ne : neD (.tup xs) (.tup []) = some (.bl (!xs.isEmpty)) := by
      rw [ne_of' (n := m + 1) (m := 1) hg (by rw [gdp_tup]; rfl) (by omega) (by omega), deq_tup]
      cases xs <;> rfl
    obtain ⟨o, ho⟩ : ∃ o : List D, o = [.lst xs, .tup (xs ++ cut xs (some (-1)) none), .tup (cut xs none (some (-1))), .tup xs.reverse, .tup (cut xs (some 1) none), .tup [.tup xs]] := ⟨_, rfl⟩
    have hcl := cut_len xs (some (-1)) none
    have h2' : ∀ x ∈ xs, fd (2 * B + 2) m x = true := fun x hx => fd_up (by omega) m m x (Nat.le_refl _) (h2 x hx)
    have h2'' : ∀ x ∈ xs, fd (2 * B + 2) (m + 1) x = true := fun x hx => fd_up (by omega) m (m + 1) x (by omega) (h2 x hx)
    have hfo : ∀ y ∈ o, fd (2 * B + 2) (m + 1 + 1) y = true := by
      intro y hy
      subst ho
      simp only [List.mem_cons, List.not_mem_nil, or_false] at hy
      rcases hy with rfl | rfl | rfl | rfl | rfl | rfl
      · exact fd_lst (by omega) h2''
      · exact fd_tup (by simp; omega) fun c hc => (List.mem_append.mp hc).elim (h2'' c) fun z => h2'' c (mem_cut z)
      · exact fd_tup (by have := cut_len xs none (some (-1)); omega) fun c hc => h2'' c (mem_cut hc)
      · exact fd_tup (by simp; omega) fun c hc => h2'' c (List.mem_reverse.mp hc)
      · exact fd_tup (by have := cut_len xs (some 1) none; omega) fun c hc => h2'' c (mem_cut hc)
      · exact fd_tup (by show 1 ≤ _; omega) (by intro z hz; rw [List.mem_singleton.mp hz]; exact fd_tup (by omega) h2')
    have hto : ∀ y ∈ o, tlen y ≤ B + 1 := by
      intro y hy
      subst ho
      have hc1 : (cut xs (some (-1)) none).length ≤ 1 := by
        rw [show (-1 : Int) = -((1 : Nat) : Int) from rfl, cut_last xs 1 (by omega), List.length_drop]
        omega
      have hc2 := cut_len xs none (some (-1))
      have hc3 := cut_len xs (some 1) none
      simp only [List.mem_cons, List.not_mem_nil, or_false] at hy
      rcases hy with rfl | rfl | rfl | rfl | rfl | rfl
      · exact Nat.zero_le _
      · show (xs ++ _).length ≤ _; rw [List.length_append]; omega
      · show (cut xs none (some (-1))).length ≤ _; omega
      · show xs.reverse.length ≤ _; rw [List.length_reverse]; omega
      · show (cut xs (some 1) none).length ≤ _; omega
      · show 1 ≤ _; omega
    have hol : o.length = 6 := by rw [ho]; rfl
    obtain ⟨y, hy, e⟩ := odd_fin (m + 1) hB cell (o ++ o) (by simp; omega) (fun y hy => have z : y ∈ o := (List.mem_append.mp hy).elim id id; ⟨hfo y z, hto y z⟩)
    have hm5 := mixF_lt (cell := cell) (prime := 9781) (many := 5) (by omega)
    by_cases hr : xs ≠ [] ∧ mixF cell 9781 5 > 0
    · obtain ⟨hn, h5⟩ := hr
      have hlen : 0 < xs.length := List.length_pos_iff.mpr hn
      have hie : xs.isEmpty = false := by cases xs with
        | nil => exact absurd rfl hn
        | cons _ _ => rfl
      obtain ⟨ej, hj⟩ := mix_nat (cell := cell) (prime := 9769) (m := xs.length) hlen
      obtain ⟨j, hjd⟩ : ∃ j : Nat, j = (mixF cell 9769 xs.length).toNat := ⟨_, rfl⟩
      rw [← hjd] at ej hj
      obtain ⟨z, hz, ez⟩ := G_odd k hB hB2 m xs[j] (cell + 31 * (j : Int) + 7) (h2 _ (List.getElem_mem hj)) (ht _ (List.getElem_mem hj)) (by omega)
      refine ⟨.tup (xs.take j ++ [z] ++ xs.drop (j + 1)), ?_, ?_⟩
      · refine ⟨fd_tup (by simp; omega) fun c hc => ?_, by show (xs.take j ++ [z] ++ xs.drop (j + 1)).length ≤ _; simp; omega⟩
        rcases List.mem_append.mp hc with hc | hc
        · rcases List.mem_append.mp hc with hc | hc
          · exact h2'' c (List.mem_of_mem_take hc)
          · rw [List.mem_singleton.mp hc]; exact hz.1
        · exact h2'' c (List.mem_of_mem_drop hc)
      · simp only [d__law_odd, EVa, glo_LETTERS, glo_EVEN, ne, hie, Bool.not_false, G_mix (k + (m + 1)) (show (0 : Int) < 9781 by omega) (by omega) (show (0 : Int) < 5 by omega), decide_eq_true h5]
        rw [G_mix (k + (m + 1)) (show (0 : Int) < 9769 by omega) (by omega) (by omega), ← ej]
        simp only [EVa, glo_LETTERS, glo_EVEN, cut_to, atI_nat', List.getElem?_eq_getElem hj, mul_l (show -(2 ^ 64) < (31 : Int) ∧ (31 : Int) < 2 ^ 64 by omega)]
        have ez' : Gn S defs (k + m + 2) 17 [xs[j], .int (cell + 31 * (j : Int) + 7)] = some z := ez
        rw [show k + (m + 1) + 1 = k + m + 2 by omega, ez']
        simp only [EVa, glo_LETTERS, glo_EVEN]
        rw [add_tup (by simp; omega)]
        simp only [EVa, glo_LETTERS, glo_EVEN]
        rw [show ((j : Nat) : Int) + 1 = ((j + 1 : Nat) : Int) by omega, cut_from, add_tup (by simp; omega)]
        simp only [EVa, glo_LETTERS, glo_EVEN]
    · refine ⟨y, hy, ?_⟩
      have rest : (exs S (Gn S defs (k + (m + 1) + 1)) (match d__law_odd.body with | .cons _ r => r | r => r) [.d (.tup xs), .d (.int cell), .no, .no]).bind finR = some y := by
        simp only [d__law_odd, EVa, glo_LETTERS, glo_EVEN, add_tup (show xs.length + (cut xs (some (-1)) none).length ≤ 16777216 by omega)]
        rw [← ho, mul2_lst (by omega)]
        simp only [EVa, glo_LETTERS, glo_EVEN]
        rw [add_lst (by simp; omega)]
        simp only [EVa, glo_LETTERS, glo_EVEN]
        rw [G_mix (k + (m + 1)) (by omega) (by omega) (by simp; try omega)]
        simp only [EVa, glo_LETTERS, glo_EVEN]
        simp only [odd0, EVa, glo_LETTERS, glo_EVEN] at e
        rw [e]
        simp only [EVa, glo_LETTERS, glo_EVEN]
      rw [← rest]
      by_cases hn : xs = []
      · subst hn
        simp only [d__law_odd, EVa, glo_LETTERS, glo_EVEN, ne, List.isEmpty_nil, Bool.not_true]
      · have h5 : ¬ mixF cell 9781 5 > 0 := fun z => hr ⟨hn, z⟩
        have hie : xs.isEmpty = false := by cases xs with
          | nil => exact absurd rfl hn
          | cons _ _ => rfl
        simp only [d__law_odd, EVa, glo_LETTERS, glo_EVEN, ne, hie, Bool.not_false, G_mix (k + (m + 1)) (show (0 : Int) < 9781 by omega) (by omega) (show (0 : Int) < 5 by omega), decide_eq_false h5]
  | non => intro _ _ ht _; rw [tsi] at ht; cases ht
  | bl _ => intro _ _ ht _; rw [tsi] at ht; cases ht
  | lst _ => intro _ _ ht _; rw [tsi] at ht; cases ht
  | scr _ => intro _ _ ht _; rw [tsi] at ht; cases ht
  | dic _ _ => intro _ _ ht _; rw [tsi] at ht; cases ht
  | btp _ => intro _ _ ht _; rw [tsi] at ht; cases ht
termination_by n => n
/-! what is an over, what is a paper: the program's look and the law's look at any thing -/
def rstB (r : Word) : Bool := !decide (r = []) && r.all fun c => decide (c ∈ [97, 98])
def ovrB : D → Bool
  | .tup [.str l, .str r] => decide (l = sAbove ∨ l = sBelow) && rstB r
  | _ => false
def strB : D → Bool
  | .str _ => true
  | _ => false
def labB : D → Bool
  | .str l => decide (l = sAbove ∨ l = sBelow)
  | _ => false
theorem isi_strB {x : D} {B n : Nat} (hx : fd B n x = true) : isiD Ty.str.nm x = some (.bl (strB x)) := by
  cases x with
  | scr ns => rw [fd] at hx; cases hx
  | dic ks xs => rw [fd] at hx; cases hx
  | btp xs => rw [fd] at hx; cases hx
  | non => exact isi_str_non
  | bl b => exact isi_str_bl
  | int i => exact isi_str_int
  | str l => exact isi_str_str
  | tup xs => exact isi_str_tup
  | lst xs => exact isi_str_lst
theorem deq_labB {x : D} {B n : Nat} (hx : fd B n x = true) : (deq (.str sAbove) x || (deq (.str sBelow) x || false)) = labB x := by
  cases x with
  | scr ns => rw [fd] at hx; cases hx
  | dic ks xs => rw [fd] at hx; cases hx
  | btp xs => rw [fd] at hx; cases hx
  | non => rw [deq_sn, deq_sn]; rfl
  | bl b => unfold deq; rw [toPy, toPy, toPy, PyData.eqv, PyData.eqv]; rfl
  | int i => unfold deq; rw [toPy, toPy, toPy, PyData.eqv, PyData.eqv]; rfl
  | str l =>
    rw [deq_str, deq_str]
    show _ = decide _
    rw [Bool.eq_iff_iff]
    simp only [Bool.or_eq_true, decide_eq_true_eq, Bool.or_false]
    exact ⟨fun z => z.imp Eq.symm Eq.symm, fun z => z.imp Eq.symm Eq.symm⟩
  | tup xs => rw [deq_st, deq_st]; rfl
  | lst xs => unfold deq; rw [toPy, toPy, toPy, PyData.eqv, PyData.eqv]; rfl
theorem lab2_gdp : gdp 2 (.tup [.str sAbove, .str sBelow]) = true := nic_gdp 2 _ (pair_nic lab_ok.2.1 lab_ok.2.2)
theorem in_labB {x : D} {B n : Nat} (hx : fd B n x = true) (hn : n ≤ 60) : inD x (.tup [.str sAbove, .str sBelow]) = some (.bl (labB x)) := by
  rw [in_tup (n := n) (m := 2) (fd_gdp _ _ hx) lab2_gdp (by omega) (by omega), List.any_cons, List.any_cons, List.any_nil, deq_labB hx]
theorem nin_labB {x : D} {B n : Nat} (hx : fd B n x = true) (hn : n ≤ 60) : ninD x (.tup [.str sAbove, .str sBelow]) = some (.bl (!labB x)) := by
  rw [nin_tup (n := n) (m := 2) (fd_gdp _ _ hx) lab2_gdp (by omega) (by omega), List.any_cons, List.any_cons, List.any_nil, deq_labB hx]
theorem ovrB_2 (a b : D) : ovrB (.tup [a, b]) = (strB b && (labB a && match b with | .str r => rstB r | _ => false)) := by
  cases a <;> cases b <;> simp [ovrB, strB, labB]
theorem ovrB_len {xs : List D} (h : ¬ xs.length = 2) : ovrB (.tup xs) = false := by
  unfold ovrB
  split
  · rename_i e
    cases e
    exact absurd rfl h
  · rfl
theorem G_is_overB (k : Nat) {x : D} {n : Nat} (hx : fd 100000 n x = true) (hn : n ≤ 60) : Gn S defs (k + 1) 3 [x] = some (.bl (ovrB x)) := by
  rw [un_is_over]
  cases x with
  | tup xs =>
    obtain ⟨m, rfl, h1, h2⟩ := fd_tup_iff hx
    simp only [d_is_over, EVa, glo_LETTERS, glo_EVEN, Bool.not_true]
    by_cases h3 : xs.length = 2
    · obtain ⟨a, b, rfl⟩ : ∃ a b, xs = [a, b] := by
        match xs, h3 with
        | [a, b], _ => exact ⟨a, b, rfl⟩
      have ha := h2 a List.mem_cons_self
      have hb := h2 b (List.mem_cons_of_mem _ List.mem_cons_self)
      have e2 : decide ((([a, b] : List D).length : Int) = 2) = true := rfl
      simp only [e2, Bool.not_true, EVa, glo_LETTERS, glo_EVEN]
      rw [compK_id (fun x => D.bl (strB x)) (by simp) (fun c hc => ⟨_, asg_nm, evC_none, by simp only [EVa, glo_LETTERS, glo_EVEN, isi_strB (h2 c hc)]⟩)]
      simp only [EVa, glo_LETTERS, glo_EVEN]
      rw [map_bl]
      simp only [EVa, glo_LETTERS, glo_EVEN, all_map_id, List.all_cons, List.all_nil, Bool.and_true]
      rw [ovrB_2]
      cases b with
      | str r =>
        cases a with
        | str l =>
          obtain ⟨r1, r2⟩ := fd_str_iff hb
          have hne : neD (.str r) (.str []) = some (.bl (!decide (r = []))) := DL.ne_str (fun c hc => by have := r2 c hc; omega) (fun c hc => absurd hc List.not_mem_nil)
          simp only [strB, Bool.and_self, Bool.not_true, EVa, glo_LETTERS, glo_EVEN, at_0, at_1, in_labB ha (by omega), hne]
          cases labB (.str l) with
          | false => simp only [EVa, glo_LETTERS, glo_EVEN]; rfl
          | true =>
            simp only [EVa, glo_LETTERS, glo_EVEN, at_1, hne]
            by_cases h5 : r = []
            · subst h5
              simp only [decide_true, Bool.not_true, EVa, glo_LETTERS, glo_EVEN]
              rfl
            · simp only [decide_eq_false h5, Bool.not_false, EVa, glo_LETTERS, glo_EVEN, at_1]
              rw [compK_all (e := fun c : Nat => D.str [c]) (g := fun c => D.bl (decide (c ∈ [97, 98]))) (by omega) (fun c hc => ⟨_, asg_nm, evC_none, by simp only [EVa, glo_LETTERS, glo_EVEN, glo_LETTERS, in_sign]⟩)]
              simp only [EVa, glo_LETTERS, glo_EVEN]
              rw [map_bl]
              simp only [EVa, glo_LETTERS, glo_EVEN, all_map_id]
              unfold rstB
              rw [decide_eq_false h5]
              rfl
        | _ => simp only [strB, labB, Bool.and_false, Bool.false_and, Bool.and_true, Bool.not_false, EVa, glo_LETTERS, glo_EVEN]
      | _ => simp only [strB, Bool.and_false, Bool.false_and, Bool.not_false, EVa, glo_LETTERS, glo_EVEN]
    · have h3' : ¬ ((xs.length : Nat) : Int) = 2 := by omega
      simp only [decide_eq_false h3', Bool.not_false, EVa, glo_LETTERS, glo_EVEN]
      rw [ovrB_len h3]
  | scr ns => rw [fd] at hx; cases hx
  | dic ks xs => rw [fd] at hx; cases hx
  | btp xs => rw [fd] at hx; cases hx
  | _ =>
    simp only [d_is_over, EVa, glo_LETTERS, glo_EVEN, Bool.not_false]
    rfl
theorem nin_ab {c : Nat} (hc : c < 128) : ninD (.str [c]) (.tup [.str [97], .str [98]]) = some (.bl (!decide (c ∈ [97, 98]))) := by
  rw [nin_tup (n := 1) (m := 2) (clean_str fun z hz => by rw [List.mem_singleton.mp hz]; omega) (clean_tup fun x hx => by
    simp only [List.mem_cons, List.not_mem_nil, or_false] at hx
    rcases hx with rfl | rfl <;> exact clean_str (by decide)) (by omega) (by omega)]
  rw [List.any_cons, List.any_cons, List.any_nil, deq_str, deq_str]
  congr 3
  rw [Bool.eq_iff_iff]
  simp only [Bool.or_eq_true, decide_eq_true_eq, Bool.or_false, List.mem_cons, List.not_mem_nil, or_false, List.cons.injEq, and_true]
  omega
theorem ne_nil_signs {ws : List Nat} (h : ∀ c ∈ ws, c < 128) : neD (.lst (ws.map fun c => D.str [c])) (.lst []) = some (.bl (!ws.isEmpty)) := by
  rw [ne_of' (n := 2) (m := 2) (clean_lst fun x hx => by
    obtain ⟨w, hw, rfl⟩ := List.mem_map.mp hx
    exact clean_str fun z hz => by rw [List.mem_singleton.mp hz]; have := h w hw; omega) (clean_lst fun x hx => absurd hx List.not_mem_nil) (by omega) (by omega), deq_lst]
  cases ws <;> rfl
theorem filter_all (r : Word) : (r.filter fun c => !decide (c ∈ [97, 98])).isEmpty = r.all fun c => decide (c ∈ [97, 98]) := by
  induction r with
  | nil => rfl
  | cons c r ih =>
    rw [List.filter_cons, List.all_cons]
    cases decide (c ∈ [97, 98]) with
    | true => rw [Bool.not_true, if_neg Bool.false_ne_true, ih, Bool.true_and]
    | false => rw [Bool.not_false, if_pos rfl]; rfl
theorem lp_one (k : Nat) {d : Deal} {x y : D} {n : Nat} (hx : fd 100000 n x = true) (hn : n ≤ 60) {s3 s4 s5 : Sl} :
    exs S (Gn S defs k) b__law_is_paper_1 [.d (encD d), .d y, .d x, s3, s4, s5] = some (if ovrB x then .nx [.d (encD d), .d y, .d x, s3, s4, s5] else .rt (.bl false)) := by
  cases x with
  | tup xs =>
    obtain ⟨m, rfl, h1, h2⟩ := fd_tup_iff hx
    simp only [b__law_is_paper_1, EVa, glo_LETTERS, glo_EVEN, Bool.not_true]
    by_cases h3 : xs.length = 2
    · obtain ⟨a, b, rfl⟩ : ∃ a b, xs = [a, b] := by
        match xs, h3 with
        | [a, b], _ => exact ⟨a, b, rfl⟩
      have ha := h2 a List.mem_cons_self
      have hb := h2 b (List.mem_cons_of_mem _ List.mem_cons_self)
      have e2 : decide ((([a, b] : List D).length : Int) = 2) = true := rfl
      simp only [e2, Bool.not_true, EVa, glo_LETTERS, glo_EVEN, at_0, at_1, nin_labB ha (by omega), isi_strB hb]
      have eo := ovrB_2 a b
      generalize ovrB (.tup [a, b]) = o at eo ⊢
      cases hl : labB a with
      | false =>
        rw [hl, Bool.false_and, Bool.and_false] at eo
        subst eo
        simp only [Bool.not_false, EVa, glo_LETTERS, glo_EVEN]
        rfl
      | true =>
        rw [hl] at eo
        simp only [Bool.not_true, EVa, glo_LETTERS, glo_EVEN, at_1, isi_strB hb]
        cases b with
        | str r =>
          have eo : o = rstB r := eo
          obtain ⟨r1, r2⟩ := fd_str_iff hb
          have heq : eqD (.str r) (.str []) = some (.bl (decide (r = []))) := DL.eq_str (fun c hc => by have := r2 c hc; omega) (fun c hc => absurd hc List.not_mem_nil)
          simp only [strB, Bool.not_true, EVa, glo_LETTERS, glo_EVEN, at_1, heq]
          by_cases h5 : r = []
          · subst h5
            subst eo
            simp only [decide_true, EVa, glo_LETTERS, glo_EVEN]
            rfl
          · have er : rstB r = r.all fun c => decide (c ∈ [97, 98]) := by
              unfold rstB
              rw [decide_eq_false h5]
              rfl
            rw [er] at eo
            subst eo
            simp only [decide_eq_false h5, EVa, glo_LETTERS, glo_EVEN, at_1]
            rw [compK_map (fun c : Nat => D.str [c]) (fun c => !decide (c ∈ [97, 98])) (fun c => D.str [c]) (by omega) (fun c hc => ⟨_, asg_nm, by simp only [EVa, glo_LETTERS, glo_EVEN, nin_ab (r2 c hc)], fun _ => by simp only [EVa, glo_LETTERS, glo_EVEN]⟩)]
            simp only [EVa, glo_LETTERS, glo_EVEN, ne_nil_signs (fun c hc => r2 c (List.mem_filter.mp hc).1), filter_all]
            cases r.all fun c => decide (c ∈ [97, 98]) with
            | true => simp only [Bool.not_true, EVa, glo_LETTERS, glo_EVEN]; rfl
            | false => simp only [Bool.not_false, EVa, glo_LETTERS, glo_EVEN]; rfl
        | _ =>
          have eo : o = false := eo
          subst eo
          simp only [strB, Bool.not_false, EVa, glo_LETTERS, glo_EVEN]
          rfl
    · have h3' : ¬ ((xs.length : Nat) : Int) = 2 := by omega
      simp only [decide_eq_false h3', Bool.not_false, EVa, glo_LETTERS, glo_EVEN]
      rw [ovrB_len h3]
      rfl
  | scr ns => rw [fd] at hx; cases hx
  | dic ks xs => rw [fd] at hx; cases hx
  | btp xs => rw [fd] at hx; cases hx
  | _ =>
    simp only [b__law_is_paper_1, EVa, glo_LETTERS, glo_EVEN, Bool.not_false]
    rfl
theorem lp_loop (k : Nat) {d : Deal} {y : D} {n : Nat} (hn : n ≤ 60) {s3 s4 s5 : Sl} : ∀ (xs : List D) (s2 : Sl), (∀ x ∈ xs, fd 100000 n x = true) →
    ∃ t2, forK (.nm 2) (exs S (Gn S defs k) b__law_is_paper_1) [.d (encD d), .d y, s2, s3, s4, s5] xs = some (if xs.all ovrB then .nx [.d (encD d), .d y, t2, s3, s4, s5] else .rt (.bl false))
  | [], s2, _ => ⟨s2, rfl⟩
  | x :: xs, s2, h => by
    have step := lp_one k (d := d) (y := y) (h x List.mem_cons_self) hn (s3 := s3) (s4 := s4) (s5 := s5)
    have h0 : asg (.nm 2) x [.d (encD d), .d y, s2, s3, s4, s5] = some [.d (encD d), .d y, .d x, s3, s4, s5] := by rw [asg_nm]; rfl
    rw [List.all_cons]
    cases e : ovrB x with
    | true =>
      rw [e, if_pos rfl] at step
      obtain ⟨t2, ih⟩ := lp_loop k hn xs (.d x) (d := d) (y := y) (s3 := s3) (s4 := s4) (s5 := s5) fun x hx => h x (List.mem_cons_of_mem _ hx)
      exact ⟨t2, by rw [forK_step h0 step, ih, Bool.true_and]⟩
    | false =>
      rw [e, if_neg Bool.false_ne_true] at step
      exact ⟨s2, by rw [forK_out h0 step, Bool.false_and, if_neg Bool.false_ne_true]⟩
theorem ovrB_enc {x : D} {B n : Nat} (hx : fd B n x = true) (h : ovrB x = true) : ∃ p : Ov, Mid B p ∧ x = encO p := by
  unfold ovrB at h
  split at h
  · rename_i l r
    obtain ⟨m, rfl, h1, h2⟩ := fd_tup_iff hx
    have hr := (fd_str_iff (h2 (.str r) (List.mem_cons_of_mem _ List.mem_cons_self))).1
    rw [Bool.and_eq_true, decide_eq_true_eq] at h
    obtain ⟨h3, h4⟩ := h
    unfold rstB at h4
    rw [Bool.and_eq_true, Bool.not_eq_true', decide_eq_false_iff_not, List.all_eq_true] at h4
    have hab : Ab r := fun c hc => by
      have := of_decide_eq_true (h4.2 c hc)
      simpa using this
    rcases h3 with rfl | rfl
    · exact ⟨.ab r, ⟨(fun z => nomatch z), (fun z => nomatch z), h4.1, hab, hr⟩, rfl⟩
    · exact ⟨.be r, ⟨(fun z => nomatch z), (fun z => nomatch z), h4.1, hab, hr⟩, rfl⟩
  · cases h
theorem ovrs_enc {B n : Nat} : ∀ {xs : List D}, (∀ x ∈ xs, fd B n x = true) → xs.all ovrB = true → ∃ L : List Ov, (∀ q ∈ L, Mid B q) ∧ xs = L.map encO
  | [], _, _ => ⟨[], fun q hq => absurd hq List.not_mem_nil, rfl⟩
  | x :: xs, h, ha => by
    rw [List.all_cons, Bool.and_eq_true] at ha
    obtain ⟨p, p1, p2⟩ := ovrB_enc (h x List.mem_cons_self) ha.1
    obtain ⟨L, l1, l2⟩ := ovrs_enc (fun y hy => h y (List.mem_cons_of_mem _ hy)) ha.2
    exact ⟨p :: L, fun q hq => (List.mem_cons.mp hq).elim (fun z => z ▸ p1) (l1 q), by rw [p2, l2]; rfl⟩
/-! both looks at what may be a paper -/
theorem adj_pw : ∀ {L : List Ov}, (∀ i (h : i + 1 < L.length), olt L[i] L[i + 1]) → L.Pairwise olt
  | [], _ => List.Pairwise.nil
  | [p], _ => List.pairwise_singleton _ _
  | p :: q :: L, h => by
    have ih := adj_pw (L := q :: L) (fun i hi => h (i + 1) (by rw [List.length_cons]; omega))
    rw [List.pairwise_cons]
    refine ⟨fun x hx => ?_, ih⟩
    have h0 : olt p q := h 0 (by simp)
    rcases List.mem_cons.mp hx with rfl | hx
    · exact h0
    · exact dlt_trans h0 ((List.pairwise_cons.mp ih).1 x hx)
def risA (L : List Ov) (i : Nat) : Bool := match L[i]?, L[i + 1]? with
  | some p, some q => dlt (encO p) (encO q)
  | _, _ => false
theorem risA_pw {L : List Ov} (h : (List.range (L.length - 1)).all (risA L) = true) : L.Pairwise olt := adj_pw fun i hi => by
  rw [List.all_eq_true] at h
  have := h i (List.mem_range.mpr (by omega))
  unfold risA at this
  rw [List.getElem?_eq_getElem hi, List.getElem?_eq_getElem (show i < L.length by omega)] at this
  exact this
theorem G_is_paperN (k : Nat) {d : Deal} {n : Nat} (hn : n ≤ 700000) {L : List Ov} (hL : ∀ q ∈ L, Mid n q) (hs : ¬ L.Pairwise olt) (hl : L.length ≤ 100000) : Gn S defs (k + 6) 6 [encD d, .tup (L.map encO)] = some (.bl false) := by
  rw [un_is_paper]
  simp only [d_is_paper, EVa, glo_LETTERS, glo_EVEN, Bool.not_true]
  rw [compK_all (e := encO) (g := fun _ => D.bl true) (by omega) (fun p hp => ⟨_, asg_nm, evC_none, by
    simp only [EVa, glo_LETTERS, glo_EVEN]
    exact G_is_over (k + 4) (hL p hp) hn⟩)]
  simp only [EVa, glo_LETTERS, glo_EVEN]
  rw [show (L.map fun _ => D.bl true) = (L.map fun _ => true).map D.bl by rw [List.map_map]; rfl]
  simp only [EVa, glo_LETTERS, glo_EVEN]
  have h1 : (L.map fun _ => true).all id = true := by rw [List.all_eq_true]; intro b hb; obtain ⟨_, _, rfl⟩ := List.mem_map.mp hb; rfl
  rw [h1]
  simp only [Bool.not_true, EVa, glo_LETTERS, glo_EVEN, List.length_map]
  rw [rng2K_of (by omega)]
  have hnn : (((L.length : Nat) : Int) - 1).toNat = L.length - 1 := by omega
  rw [hnn, rng1]
  simp only [EVa, glo_LETTERS, glo_EVEN]
  rw [List.map_map, compK_all (e := (fun j : Nat => D.int (j : Nat)) ∘ fun i => 1 + i) (g := fun i => D.bl (risA L i)) (by simp; omega) (fun i hi => ⟨_, asg_nm, evC_none, by
    have hi := List.mem_range.mp hi
    have b1 : i < L.length := by omega
    have b2 : i + 1 < L.length := by omega
    have p1 := hL _ (List.getElem_mem b1)
    have p2 := hL _ (List.getElem_mem b2)
    simp only [EVa, glo_LETTERS, glo_EVEN, Function.comp, show ((1 + i : Nat) : Int) - 1 = ((i : Nat) : Int) by omega, pair_at b1, show ((1 + i : Nat) : Int) = ((i + 1 : Nat) : Int) by omega, show ((i + 1 : Nat) : Int) - 1 = ((i : Nat) : Int) by omega, pair_at b2, lt_overs ⟨p1.1, p1.2.2.2.1⟩ ⟨p2.1, p2.2.2.2.1⟩]
    unfold risA
    rw [List.getElem?_eq_getElem b1, List.getElem?_eq_getElem b2]⟩)]
  simp only [EVa, glo_LETTERS, glo_EVEN]
  rw [map_bl]
  simp only [EVa, glo_LETTERS, glo_EVEN, all_map_id]
  have h2 : (List.range (L.length - 1)).all (risA L) = false := Bool.eq_false_iff.mpr fun z => hs (risA_pw z)
  rw [h2]
  simp only [Bool.not_false, EVa, glo_LETTERS, glo_EVEN]
theorem pD_inj (p q : Pr) : deq (pD p) (pD q) = true ↔ p = q := by
  unfold pD
  rw [deq_tup]
  show (deq _ _ && (deq _ _ && true)) = true ↔ _
  rw [deq_str, deq_str, Bool.and_true, Bool.and_eq_true, decide_eq_true_eq, decide_eq_true_eq]
  exact ⟨fun z => Prod.ext z.1 z.2, fun z => by rw [z]; exact ⟨rfl, rfl⟩⟩
def prO (p : Ov) : Pr := (lab p, p.rest)
theorem pD_prO {p : Ov} (h : p ≠ .no) : pD (prO p) = encO p := (enc_pair h).symm
theorem srt_overs {n : Nat} {L : List Ov} (hL : ∀ q ∈ L, Mid n q) (hl : L.length < 1199) : ∃ (ys : List D) (b : Bool), srtS (.tup (L.map encO)) = some (.lst ys) ∧ neD (.lst (L.map encO)) (.lst ys) = some (.bl (!b)) ∧ (b = true ↔ L.Pairwise olt) := by
  have e : L.map encO = (L.map prO).map pD := by
    rw [List.map_map]
    exact List.map_congr_left fun p hp => (pD_prO (hL p hp).1).symm
  have hp : ∀ p ∈ L.map prO, gdp 2 (pD p) = true := fun p hp => by
    obtain ⟨q, hq, rfl⟩ := List.mem_map.mp hp
    rw [pD_prO (hL q hq).1]
    exact nic_gdp 2 _ (ov_nic (hL q hq).2.2.2.1)
  have hsq : seqOk ((ndP (L.map prO)).map pD) = true := seqOk_of (n := 2) (fun a ha b hb => by
    obtain ⟨p, _, rfl⟩ := List.mem_map.mp ha
    obtain ⟨q, _, rfl⟩ := List.mem_map.mp hb
    exact alike_pair _ _ _ _) (fun a ha => by
    obtain ⟨p, _, rfl⟩ := List.mem_map.mp ha
    rfl) (fun a ha => by
    obtain ⟨p, hp', rfl⟩ := List.mem_map.mp ha
    exact hp p (mem_ndP.mp hp')) (by omega)
  have hpw : (L.map prO).Pairwise (fun p q => dlt (pD p) (pD q) = true) ↔ L.Pairwise olt := by
    rw [List.pairwise_map]
    constructor
    · intro h
      exact List.Pairwise.imp_of_mem (fun {a b} ha hb z => by
        rw [pD_prO (hL a ha).1, pD_prO (hL b hb).1] at z
        exact z) h
    · intro h
      exact List.Pairwise.imp_of_mem (fun {a b} ha hb z => by
        rw [pD_prO (hL a ha).1, pD_prO (hL b hb).1]
        exact z) h
  rw [e]
  refine ⟨(sortP (ndP (L.map prO))).map pD, decide (L.map prO = sortP (ndP (L.map prO))), ?_, ?_, ?_⟩
  · show (asPr _).bind _ = _
    rw [asPr_map]
    show (if (seqOk ((ndP (L.map prO)).map pD) && decide (((L.map prO).map pD).length < 1199)) = true then _ else _) = _
    rw [hsq, decide_eq_true (by rw [List.length_map, List.length_map]; exact hl)]
    rfl
  · rw [ne_of' (n := 3) (m := 3) (clean_lst fun x hx => by
      obtain ⟨p, hp', rfl⟩ := List.mem_map.mp hx
      exact hp p hp') (clean_lst fun x hx => by
      obtain ⟨p, hp', rfl⟩ := List.mem_map.mp hx
      exact hp p (mem_ndP.mp (mem_sortP.mp hp'))) (by omega) (by omega), deq_lst]
    congr 3
    rw [Bool.eq_iff_iff, decide_eq_true_eq]
    exact deqs_map pD_inj _ _
  · rw [decide_eq_true_eq, ← hpw]
    constructor
    · intro h
      rw [h]
      exact sortP_rise (nodup_ndP _)
    · intro h
      exact riseP h (sortP_rise (nodup_ndP _)) fun a => by rw [mem_sortP, mem_ndP]
def okJ (d : Deal) (L : List Ov) (o : Ov) (j : Nat) : Bool := decide (nx d o j = .no) || decide (nx d o j ∈ L)
theorem lc_one (k : Nat) {d : Deal} (hd : GoodD d) {L : List Ov} (hL : ∀ q ∈ L, Ab q.rest) {o : Ov} (ho : OvOk 800000 o) (hne : o ≠ .no) {j : Nat} (hj : j < d.length) {s3 s5 : Sl} :
    exs S (Gn S defs (k + 3)) b__law_is_paper_3 [.d (encD d), .d (.tup (L.map encO)), .d (encO o), s3, .d (.int j), s5] = some (if okJ d L o j then .nx [.d (encD d), .d (.tup (L.map encO)), .d (encO o), s3, .d (.int j), .d (encO (nx d o j))] else .rt (.bl false)) := by
  have e := G_led k hd hj (⟨ho.1, by have := ho.2; omega⟩ : OvOk 900000 o) hne
  have hok := nx_ok hd ho hj
  unfold okJ
  generalize nx d o j = g at e hok ⊢
  simp only [b__law_is_paper_3, EVa, glo_LETTERS, glo_EVEN, e]
  by_cases h1 : g = .no
  · subst h1
    simp only [encO_no, EVa, glo_LETTERS, glo_EVEN, Bool.not_true]
    rfl
  · have hi : isNon (encO g) = false := by rw [enc_pair h1]; rfl
    simp only [hi, EVa, glo_LETTERS, glo_EVEN, Bool.not_false, nin_overs hok.1 hL, decide_eq_false h1, Bool.false_or]
    cases decide (g ∈ L) with
    | true => simp only [Bool.not_true, EVa, glo_LETTERS, glo_EVEN]; rfl
    | false => simp only [Bool.not_false, EVa, glo_LETTERS, glo_EVEN]; rfl
theorem lc_row (k : Nat) {d : Deal} (hd : GoodD d) {L : List Ov} (hL : ∀ q ∈ L, Ab q.rest) {o : Ov} (ho : OvOk 800000 o) (hne : o ≠ .no) {s3 : Sl} : ∀ (js : List Nat) (s4 s5 : Sl), (∀ j ∈ js, j < d.length) →
    ∃ t4 t5, forK (.nm 4) (exs S (Gn S defs (k + 3)) b__law_is_paper_3) [.d (encD d), .d (.tup (L.map encO)), .d (encO o), s3, s4, s5] (js.map fun j => D.int (j : Nat)) = some (if js.all (okJ d L o) then .nx [.d (encD d), .d (.tup (L.map encO)), .d (encO o), s3, t4, t5] else .rt (.bl false))
  | [], s4, s5, _ => ⟨s4, s5, rfl⟩
  | j :: js, s4, s5, h => by
    have step := lc_one k hd hL ho hne (h j List.mem_cons_self) (s3 := s3) (s5 := s5)
    have h0 : asg (.nm 4) (.int (j : Nat)) [.d (encD d), .d (.tup (L.map encO)), .d (encO o), s3, s4, s5] = some [.d (encD d), .d (.tup (L.map encO)), .d (encO o), s3, .d (.int (j : Nat)), s5] := by rw [asg_nm]; rfl
    rw [List.map_cons, List.all_cons]
    cases e : okJ d L o j with
    | true =>
      rw [e, if_pos rfl] at step
      obtain ⟨t4, t5, ih⟩ := lc_row k hd hL ho hne js (.d (.int (j : Nat))) (.d (encO (nx d o j))) (s3 := s3) fun x hx => h x (List.mem_cons_of_mem _ hx)
      exact ⟨t4, t5, by rw [forK_step h0 step, ih, Bool.true_and]⟩
    | false =>
      rw [e, if_neg Bool.false_ne_true] at step
      exact ⟨s4, s5, by rw [forK_out h0 step, Bool.false_and, if_neg Bool.false_ne_true]⟩
theorem okJ_goals (d : Deal) (L : List Ov) (o : Ov) : (List.range d.length).all (okJ d L o) = (goalsL d o).all fun g => decide (g ∈ L) := by
  rw [Bool.eq_iff_iff, List.all_eq_true, List.all_eq_true]
  constructor
  · intro h g hg
    obtain ⟨g1, j, g2, rfl⟩ := mem_goals.mp hg
    have := h j (List.mem_range.mpr g2)
    unfold okJ at this
    rw [decide_eq_false g1, Bool.false_or] at this
    exact this
  · intro h j hj
    unfold okJ
    by_cases e : nx d o j = .no
    · rw [decide_eq_true e]; rfl
    · rw [h _ (mem_goals.mpr ⟨e, j, List.mem_range.mp hj, rfl⟩), Bool.or_true]
theorem lc_out (k : Nat) {d : Deal} (hd : GoodD d) {L : List Ov} (hL : ∀ q ∈ L, Ab q.rest) {s3 : Sl} : ∀ (os : List Ov) (s2 s4 s5 : Sl), (∀ o ∈ os, OvOk 800000 o ∧ o ≠ .no) →
    ∃ t2 t4 t5, forK (.nm 2) (exs S (Gn S defs (k + 3)) b__law_is_paper_2) [.d (encD d), .d (.tup (L.map encO)), s2, s3, s4, s5] (os.map encO) = some (if os.all (fun o => (goalsL d o).all fun g => decide (g ∈ L)) then .nx [.d (encD d), .d (.tup (L.map encO)), t2, s3, t4, t5] else .rt (.bl false))
  | [], s2, s4, s5, _ => ⟨s2, s4, s5, rfl⟩
  | o :: os, s2, s4, s5, h => by
    obtain ⟨h1, h2⟩ := h o List.mem_cons_self
    have h4 := hd.2.1
    have ln : lenD [encD d] = some (.int (d.length : Nat)) := by unfold encD; rw [len_tup, List.length_map]
    obtain ⟨t4, t5, e⟩ := lc_row k hd hL h1 h2 (List.range d.length) s4 s5 (s3 := s3) fun j hj => List.mem_range.mp hj
    rw [okJ_goals] at e
    have step : exs S (Gn S defs (k + 3)) b__law_is_paper_2 [.d (encD d), .d (.tup (L.map encO)), .d (encO o), s3, s4, s5] = some (if (goalsL d o).all (fun g => decide (g ∈ L)) then .nx [.d (encD d), .d (.tup (L.map encO)), .d (encO o), s3, t4, t5] else .rt (.bl false)) := by
      simp only [b__law_is_paper_2, EVa, glo_LETTERS, glo_EVEN, ln]
      rw [rng1K_of (by omega), Int.toNat_natCast, rng0]
      simp only [EVa, glo_LETTERS, glo_EVEN]
      rw [e]
      cases (goalsL d o).all fun g => decide (g ∈ L) with
      | true => rw [if_pos rfl]; simp only [EVa, glo_LETTERS, glo_EVEN]
      | false => rw [if_neg Bool.false_ne_true]; simp only [EVa, glo_LETTERS, glo_EVEN]
    have h0 : asg (.nm 2) (encO o) [.d (encD d), .d (.tup (L.map encO)), s2, s3, s4, s5] = some [.d (encD d), .d (.tup (L.map encO)), .d (encO o), s3, s4, s5] := by rw [asg_nm]; rfl
    rw [List.map_cons, List.all_cons]
    cases e2 : (goalsL d o).all fun g => decide (g ∈ L) with
    | true =>
      rw [e2, if_pos rfl] at step
      obtain ⟨u2, u4, u5, ih⟩ := lc_out k hd hL os (.d (encO o)) t4 t5 (s3 := s3) fun x hx => h x (List.mem_cons_of_mem _ hx)
      exact ⟨u2, u4, u5, by rw [forK_step h0 step, ih, Bool.true_and]⟩
    | false =>
      rw [e2, if_neg Bool.false_ne_true] at step
      exact ⟨s2, s4, s5, by rw [forK_out h0 step, Bool.false_and, if_neg Bool.false_ne_true]⟩
theorem both_paper (k j : Nat) {d : Deal} (hd : GoodD d) {x : D} {n : Nat} (hx : fd 100000 n x = true) (hn : n ≤ 60) (hl : tlen x < 1199) : ∃ b, Gn S defs (k + 6) 6 [encD d, x] = some (.bl b) ∧ Gn S defs (j + 4) 18 [encD d, x] = some (.bl b) := by
  cases x with
  | tup xs =>
    obtain ⟨m, rfl, h1, h2⟩ := fd_tup_iff hx
    have hl : xs.length < 1199 := hl
    obtain ⟨t2, el⟩ := lp_loop (j + 3) (d := d) (y := .tup xs) (show m ≤ 60 by omega) xs .no h2 (s3 := .no) (s4 := .no) (s5 := .no)
    cases ha : xs.all ovrB with
    | false =>
      rw [ha, if_neg Bool.false_ne_true] at el
      refine ⟨false, ?_, ?_⟩
      · rw [un_is_paper]
        simp only [d_is_paper, EVa, glo_LETTERS, glo_EVEN, Bool.not_true]
        rw [compK_id (fun x => D.bl (ovrB x)) (by omega) (fun c hc => ⟨_, asg_nm, evC_none, by simp only [EVa, glo_LETTERS, glo_EVEN, G_is_overB (k + 4) (h2 c hc) (show m ≤ 60 by omega)]⟩)]
        simp only [EVa, glo_LETTERS, glo_EVEN]
        rw [map_bl]
        simp only [EVa, glo_LETTERS, glo_EVEN, all_map_id, ha, Bool.not_false]
      · rw [un__law_is_paper]
        simp only [d__law_is_paper, EVa, glo_LETTERS, glo_EVEN, Bool.not_true]
        rw [el]
        simp only [EVa, glo_LETTERS, glo_EVEN]
    | true =>
      rw [ha, if_pos rfl] at el
      obtain ⟨L, hL, rfl⟩ := ovrs_enc h2 ha
      rw [List.length_map] at hl
      obtain ⟨ys, b, s1, s2, s3⟩ := srt_overs hL hl
      by_cases hp : L.Pairwise olt
      · refine ⟨closedB d L, G_is_paper k hd (by omega) hL hp (by omega), ?_⟩
        obtain ⟨u2, u4, u5, eo⟩ := lc_out j hd (fun q hq => (hL q hq).2.2.2.1) (.even :: L) t2 .no .no (s3 := .no) (fun o ho => by
          rcases List.mem_cons.mp ho with rfl | ho
          · exact ⟨⟨Ab.nil, Nat.zero_le _⟩, fun z => nomatch z⟩
          · exact ⟨⟨(hL o ho).2.2.2.1, by have := (hL o ho).2.2.2.2; omega⟩, (hL o ho).1⟩)
        have eo' : forK (.nm 2) (exs S (Gn S defs (j + 3)) b__law_is_paper_2) [.d (encD d), .d (.tup (L.map encO)), t2, .no, .no, .no] (.tup [.str sEven, .str []] :: L.map encO) = some (if closedB d L = true then _ else _) := eo
        rw [un__law_is_paper]
        simp only [d__law_is_paper, EVa, glo_LETTERS, glo_EVEN, Bool.not_true]
        rw [el]
        simp only [EVa, glo_LETTERS, glo_EVEN, s1, s2, s3.mpr hp, Bool.not_true]
        rw [add_tup (by simp; omega)]
        simp only [EVa, glo_LETTERS, glo_EVEN, List.cons_append, List.nil_append]
        rw [eo']
        cases closedB d L with
        | true => rw [if_pos rfl]; simp only [EVa, glo_LETTERS, glo_EVEN]
        | false => rw [if_neg Bool.false_ne_true]; simp only [EVa, glo_LETTERS, glo_EVEN]
      · have hb : b = false := Bool.eq_false_iff.mpr fun z => hp (s3.mp z)
        subst hb
        refine ⟨false, G_is_paperN k (by omega) hL hp (by omega), ?_⟩
        rw [un__law_is_paper]
        simp only [d__law_is_paper, EVa, glo_LETTERS, glo_EVEN, Bool.not_true]
        rw [el]
        simp only [EVa, glo_LETTERS, glo_EVEN, s1, s2, Bool.not_false]
  | scr ns => rw [fd] at hx; cases hx
  | dic ks xs => rw [fd] at hx; cases hx
  | btp xs => rw [fd] at hx; cases hx
  | _ =>
    refine ⟨false, ?_, ?_⟩
    · rw [un_is_paper]
      simp only [d_is_paper, EVa, glo_LETTERS, glo_EVEN, Bool.not_false]
    · rw [un__law_is_paper]
      simp only [d__law_is_paper, EVa, glo_LETTERS, glo_EVEN, Bool.not_false]
/-! the law's things -/
def PrOk (p : Pr) : Prop := (p.1.length ≤ 100 ∧ p.2.length ≤ 100) ∧ (∀ c ∈ p.1, c < 128) ∧ ∀ c ∈ p.2, c < 128
instance (p : Pr) : Decidable (PrOk p) := by unfold PrOk; exact inferInstance
def thOk (x : D) : Prop := fd 100000 10 x = true ∧ tlen x < 1199
theorem PrOk.fd {p : Pr} (h : PrOk p) {B n : Nat} (hB : 100 ≤ B) : fd B (n + 1) (pD p) = true := fd_tup (by show 2 ≤ B; omega) fun x hx => by
  rcases List.mem_cons.mp hx with rfl | hx
  · exact fd_str (by have := h.1.1; omega) h.2.1
  · rw [List.mem_singleton.mp hx]
    exact fd_str (by have := h.1.2; omega) h.2.2
theorem PrOk.gdp {p : Pr} (h : PrOk p) : gdp 2 (pD p) = true := fd_gdp _ _ (h.fd (B := 100) (n := 1) (by omega))
theorem prs_th {xs : List D} (h : ∀ x ∈ xs, ∃ p, PrOk p ∧ x = pD p) (hl : xs.length < 1199) : thOk (.tup xs) := ⟨fd_tup (by omega) fun x hx => by
  obtain ⟨p, hp, rfl⟩ := h x hx
  exact hp.fd (by omega), hl⟩
theorem sort_prs {xs : List D} (h : ∀ x ∈ xs, ∃ p, PrOk p ∧ x = pD p) (hl : xs.length < 1199) : ∃ ys, sortY [.tup xs] = some (.lst ys) ∧ thOk (.tup ys) := by
  have h1 : seqOk xs = true := seqOk_of (n := 2) (fun a ha b hb => by
    obtain ⟨p, _, rfl⟩ := h a ha
    obtain ⟨q, _, rfl⟩ := h b hb
    exact alike_pair _ _ _ _) (fun a ha => by
    obtain ⟨p, _, rfl⟩ := h a ha
    rfl) (fun a ha => by
    obtain ⟨p, hp, rfl⟩ := h a ha
    exact hp.gdp) (by omega)
  have h2 : xs.all isTNE = true := by
    rw [List.all_eq_true]
    intro a ha
    obtain ⟨p, _, rfl⟩ := h a ha
    rfl
  refine ⟨xs.mergeSort (PySem.W.dataLe false toPy), ?_, prs_th (fun x hx => h x (List.mem_mergeSort.mp hx)) (by rw [List.length_mergeSort]; exact hl)⟩
  show (if (seqOk xs && xs.all isTNE && decide (xs.length ≤ sizeLine)) = true then some (D.lst (xs.mergeSort (PySem.W.dataLe false toPy))) else none) = _
  rw [h1, h2, decide_eq_true (by rw [PySem.sizeLine_eq]; omega)]
  rfl
theorem mid_pr {p : Ov} (h : Mid 8 p) : ∃ q, PrOk q ∧ encO p = pD q := by
  refine ⟨prO p, ?_, (pD_prO h.1).symm⟩
  obtain ⟨h1, h2, h3, h4, h5⟩ := h
  have hlab : lab p = sAbove ∨ lab p = sBelow := by
    cases p with
    | no => exact absurd rfl h1
    | even => exact absurd rfl h2
    | ab r => exact .inl rfl
    | be r => exact .inr rfl
  refine ⟨⟨?_, by show p.rest.length ≤ 100; omega⟩, ?_, fun c hc => by rcases h4 c hc with z | z <;> omega⟩
  · show (lab p).length ≤ 100
    rcases hlab with e | e <;> rw [e] <;> decide
  · show ∀ c ∈ lab p, c < 128
    rcases hlab with e | e <;> rw [e] <;> decide
theorem due_prs {L : List Ov} (hm : ∀ p ∈ L, Mid 8 p) : ∀ x ∈ L.map encO, ∃ q, PrOk q ∧ x = pD q := fun x hx => by
  obtain ⟨p, hp, rfl⟩ := List.mem_map.mp hx
  exact mid_pr (hm p hp)
theorem due_fd {L : List Ov} (hm : ∀ p ∈ L, Mid 8 p) (hl : L.length ≤ 1100) : fd 1100 2 (.tup (L.map encO)) = true := fd_tup (by rw [List.length_map]; exact hl) fun x hx => by
  obtain ⟨p, hp, rfl⟩ := due_prs hm x hx
  exact hp.fd (by omega)
theorem due_tsi {L : List Ov} (hm : ∀ p ∈ L, Mid 8 p) : tsi 2 (.tup (L.map encO)) = true := by
  rw [tsi, tsis_all, List.all_eq_true]
  intro x hx
  obtain ⟨p, hp, rfl⟩ := due_prs hm x hx
  unfold pD
  rw [tsi, tsis_all, List.all_cons, List.all_cons, List.all_nil, tsi, tsi, decide_eq_true (by have := hp.1.1; omega), decide_eq_true (by have := hp.1.2; omega)]
  rfl
theorem mul9 : mulD (.str [98]) (.int 9) = some (.str [98, 98, 98, 98, 98, 98, 98, 98, 98]) := by
  rfl
/-! what a few deals reach -/
theorem rch_iff {d : Deal} {n : Nat} {L0 : List Ov} (h1 : ∀ p ∈ L0, Rch d n p) (h2 : ((.even :: L0).all fun o => (goalsL d o).all fun g => decide (g = .even) || (decide (n < g.rest.length) || decide (g ∈ L0))) = true) (p : Ov) : Rch d n p ↔ p ∈ L0 := by
  have key : ∀ o ∈ .even :: L0, ∀ g ∈ goalsL d o, g ≠ .even → g.rest.length ≤ n → g ∈ L0 := fun o ho g hg n1 n2 => by
    rw [List.all_eq_true] at h2
    have := h2 o ho
    rw [List.all_eq_true] at this
    have := this g hg
    rw [decide_eq_false n1, decide_eq_false (by omega), Bool.false_or, Bool.false_or] at this
    exact of_decide_eq_true this
  refine ⟨fun h => ?_, h1 p⟩
  induction h with
  | first a b c => exact key .even List.mem_cons_self _ a b c
  | next a b c e ih => exact key _ (List.mem_cons_of_mem _ ih) _ b c e
theorem hit_mem {d : Deal} {L L0 : List Ov} (h : ∀ p, p ∈ L ↔ p ∈ L0) : hitB d L = hitB d L0 := by
  unfold hitB
  rw [Bool.eq_iff_iff, List.any_eq_true, List.any_eq_true]
  simp only [List.mem_cons, h]
theorem closed_mem {d : Deal} {L L0 : List Ov} (h : ∀ p, p ∈ L ↔ p ∈ L0) : closedB d L = closedB d L0 := by
  rw [Bool.eq_iff_iff, closed_iff, closed_iff]
  simp only [h]
theorem goodD1 {a b : Word} (h : (1 ≤ a.length ∧ a.length ≤ 3 ∧ ∀ c ∈ a, c = 97 ∨ c = 98) ∧ 1 ≤ b.length ∧ b.length ≤ 3 ∧ ∀ c ∈ b, c = 97 ∨ c = 98) : GoodD [(a, b)] := ⟨by simp, by simp, fun s hs => by rw [List.mem_singleton.mp hs]; exact h⟩
theorem word_at (k : Nat) {d : Deal} (hd : GoodD d) {n : Nat} (hn : n ≤ 8) {L0 : List Ov} (h : ∀ p, Rch d n p ↔ p ∈ L0) : Gn S defs (k + 6) 9 [encD d, .int (n : Nat)] = some (.str (wordO d L0)) := by
  obtain ⟨L, l1, l2⟩ := G_reach k hd hn
  have e : ∀ p, p ∈ L ↔ p ∈ L0 := fun p => (l1.2 p).trans (h p)
  rw [G_sorted_out k hd hn l1]
  unfold wordO
  rw [hit_mem e, closed_mem e]
theorem paper1 (k : Nat) : Gn S defs (k + 7) 8 [.tup [.tup [.str [97], .str [98]]], .int 1] = some (.tup []) := by
  have hd : GoodD [([97], [98])] := goodD1 (by decide)
  have h : ∀ p, Rch [([97], [98])] 1 p ↔ p ∈ [] := rch_iff (fun p hp => absurd hp List.not_mem_nil) (by decide)
  have hr : IsReach [([97], [98])] 1 [] := ⟨List.Pairwise.nil, fun p => (h p).symm⟩
  have e := G_paper k hd (n := 1) (by omega) hr
  rw [show closedB [([97], [98])] [] = true by decide, if_pos rfl] at e
  exact e
theorem word1 (k : Nat) : Gn S defs (k + 6) 9 [.tup [.tup [.str [97, 98], .str [97]]], .int 3] = some (.str [110, 111, 110, 101]) := by
  have hd : GoodD [([97, 98], [97])] := goodD1 (by decide)
  have h : ∀ p, Rch [([97, 98], [97])] 3 p ↔ p ∈ [.ab [98]] := rch_iff (fun p hp => by
    rw [List.mem_singleton.mp hp]
    exact .first (by decide) (by decide) (by decide)) (by decide)
  have e := word_at k hd (n := 3) (by omega) h
  rw [show wordO [([97, 98], [97])] [.ab [98]] = [110, 111, 110, 101] by decide] at e
  exact e
theorem word2 (k : Nat) : Gn S defs (k + 6) 9 [.tup [.tup [.str [97, 97], .str [97]]], .int 3] = some (.str [111, 112, 101, 110]) := by
  have hd : GoodD [([97, 97], [97])] := goodD1 (by decide)
  have r1 : Rch [([97, 97], [97])] 3 (.ab [97]) := .first (by decide) (by decide) (by decide)
  have r2 : Rch [([97, 97], [97])] 3 (.ab [97, 97]) := .next r1 (by decide) (by decide) (by decide)
  have r3 : Rch [([97, 97], [97])] 3 (.ab [97, 97, 97]) := .next r2 (by decide) (by decide) (by decide)
  have h : ∀ p, Rch [([97, 97], [97])] 3 p ↔ p ∈ [.ab [97], .ab [97, 97], .ab [97, 97, 97]] := rch_iff (fun p hp => by
    simp only [List.mem_cons, List.not_mem_nil, or_false] at hp
    rcases hp with rfl | rfl | rfl
    · exact r1
    · exact r2
    · exact r3) (by decide)
  have e := word_at k hd (n := 3) (by omega) h
  rw [show wordO [([97, 97], [97])] [.ab [97], .ab [97, 97], .ab [97, 97, 97]] = [111, 112, 101, 110] by decide] at e
  exact e
def E5 (x0 x1 x2 : Sl) (d : Deal) (x4 : Sl) (L : List Ov) (x6 x7 x8 x9 x10 x11 x12 x13 x14 x15 x16 : Sl) : En := [x0, x1, x2, .d (encD d), x4, .d (.tup (L.map encO)), x6, x7, x8, x9, x10, x11, x12, x13, x14, x15, x16]
theorem p1_part {d : Deal} (hd : GoodD d) {n : Nat} (hn : n ≤ 8) {L : List Ov} (h : IsReach d n L) {x0 x1 x2 x7 x8 x9 x10 x11 x12 x13 x14 x15 x16 : Sl} :
    ex S (Gn S defs 20) i_law_1 (E5 x0 x1 x2 d (.d (.int (n : Nat))) L (.d (encOL (if closedB d L then some L else none))) x7 x8 x9 x10 x11 x12 x13 x14 x15 x16) = some (.nx (E5 x0 x1 x2 d (.d (.int (n : Nat))) L (.d (encOL (if closedB d L then some L else none))) x7 x8 x9 x10 x11 x12 x13 x14 x15 x16)) := by
  obtain ⟨M, m1, m2⟩ := G_reach 15 hd hn
  have := m1.uniq h
  subst this
  have m2' : Gn S defs 20 7 [encD d, .int (n : Nat)] = some (.tup (M.map encO)) := m2
  have m3 : Gn S defs 20 8 [encD d, .int (n : Nat)] = some (encOL (if closedB d M then some M else none)) := G_paper 13 hd hn h
  have hl := h.len hd hn
  have q1 : nic 2 (.tup (M.map encO)) = true := nic_tup (by rw [List.length_map]; omega) fun x hx => by
    obtain ⟨p, hp, rfl⟩ := List.mem_map.mp hx
    exact ov_nic (h.mid hd p hp).2.2.2.1
  have q2 : nic 2 (encOL (if closedB d M then some M else none)) = true := by
    split
    · exact q1
    · exact nic_non
  generalize encOL (if closedB d M then some M else none) = P at m3 q2 ⊢
  have m4 : Gn S defs 20 12 [.tup [.tup (M.map encO), P], .tup [.tup (M.map encO), P]] = some (.bl true) := G_same 16 3 _ (nic_tup (by show 2 ≤ 100000; omega) fun x hx => by
    rcases List.mem_cons.mp hx with rfl | hx
    · exact q1
    · rw [List.mem_singleton.mp hx]; exact q2)
  simp only [i_law_1, E5, EVa, glo_LETTERS, glo_EVEN, m2', m3, m4, Bool.not_true]
theorem led_turn {d : Deal} (hd : GoodD d) {L Ns : List Ov} {o : Ov} (ho : OvOk 800000 o) (hne : o ≠ .no) (hl : Ns.length ≤ 100000) {x0 x1 x2 x4 x6 x9 x10 x11 x12 x13 x14 x15 x16 : Sl} :
    exs S (Gn S defs 20) b_law_2 (E5 x0 x1 x2 d x4 L x6 (.l (Ns.map encO)) (.d (encO o)) x9 x10 x11 x12 x13 x14 x15 x16) = some (.nx (E5 x0 x1 x2 d x4 L x6 (.l ((Ns ++ gsO d o).map encO)) (.d (encO o)) x9 x10 x11 x12 x13 x14 x15 x16)) := by
  have h4 := hd.2.1
  have ln : lenD [encD d] = some (.int (d.length : Nat)) := by unfold encD; rw [len_tup, List.length_map]
  simp only [b_law_2, E5, EVa, glo_LETTERS, glo_EVEN, ln, ex_extC]
  rw [rng1K_of (by omega), Int.toNat_natCast, rng0]
  simp only [EVa, glo_LETTERS, glo_EVEN]
  rw [compK_all (e := fun j : Nat => D.int (j : Nat)) (g := fun j => encO (nx d o j)) (by simp; omega) (fun j hj => ⟨_, asg_nm, evC_none, by
    have g : Gn S defs 20 19 [encD d, encO o, .int (j : Nat)] = some (encO (nx d o j)) := G_led 17 hd (List.mem_range.mp hj) (⟨ho.1, by have := ho.2; omega⟩ : OvOk 900000 o) hne
    simp only [EVa, glo_LETTERS, glo_EVEN, g]⟩)]
  simp only [EVa, glo_LETTERS, glo_EVEN]
  rw [extK_of (by simp; omega)]
  simp only [EVa, glo_LETTERS, glo_EVEN]
  rw [List.map_append]
  unfold gsO
  rw [List.map_map]
  rfl
theorem hit_led {d : Deal} {L : List Ov} : decide (.even ∈ ((.even :: L).map (gsO d)).flatten) = hitB d L := by
  unfold hitB
  rw [Bool.eq_iff_iff, decide_eq_true_eq, List.any_eq_true, List.mem_flatten]
  constructor
  · rintro ⟨l, hl, he⟩
    obtain ⟨o, ho, rfl⟩ := List.mem_map.mp hl
    obtain ⟨j, hj, e⟩ := List.mem_map.mp he
    exact ⟨o, ho, decide_eq_true (mem_goals.mpr ⟨(fun z => nomatch z), j, List.mem_range.mp hj, e.symm⟩)⟩
  · rintro ⟨o, ho, hg⟩
    obtain ⟨_, j, hj, e⟩ := mem_goals.mp (of_decide_eq_true hg)
    exact ⟨_, List.mem_map.mpr ⟨o, ho, rfl⟩, List.mem_map.mpr ⟨j, List.mem_range.mpr hj, e.symm⟩⟩
theorem led_loop {d : Deal} (hd : GoodD d) {L : List Ov} {x0 x1 x2 x4 x6 x9 x10 x11 x12 x13 x14 x15 x16 : Sl} : ∀ (os Ns : List Ov) (x8 : Sl), (∀ o ∈ os, OvOk 800000 o ∧ o ≠ .no) → Ns.length + 4 * os.length ≤ 100000 →
    ∃ t8, forK (.nm 8) (exs S (Gn S defs 20) b_law_2) (E5 x0 x1 x2 d x4 L x6 (.l (Ns.map encO)) x8 x9 x10 x11 x12 x13 x14 x15 x16) (os.map encO) = some (.nx (E5 x0 x1 x2 d x4 L x6 (.l ((Ns ++ (os.map (gsO d)).flatten).map encO)) t8 x9 x10 x11 x12 x13 x14 x15 x16))
  | [], Ns, x8, _, _ => ⟨x8, by rw [List.map_nil, forK_nil, List.map_nil, List.flatten_nil, List.append_nil]⟩
  | o :: os, Ns, x8, h, hl => by
    rw [List.length_cons] at hl
    obtain ⟨h1, h2⟩ := h o List.mem_cons_self
    have h4 := hd.2.1
    have step := led_turn hd h1 h2 (Ns := Ns) (L := L) (by omega) (x0 := x0) (x1 := x1) (x2 := x2) (x4 := x4) (x6 := x6) (x9 := x9) (x10 := x10) (x11 := x11) (x12 := x12) (x13 := x13) (x14 := x14) (x15 := x15) (x16 := x16)
    have hg : (gsO d o).length = d.length := by unfold gsO; rw [List.length_map, List.length_range]
    obtain ⟨t8, ih⟩ := led_loop hd os (Ns ++ gsO d o) (.d (encO o)) (fun x hx => h x (List.mem_cons_of_mem _ hx)) (by rw [List.length_append]; omega) (L := L) (x0 := x0) (x1 := x1) (x2 := x2) (x4 := x4) (x6 := x6) (x9 := x9) (x10 := x10) (x11 := x11) (x12 := x12) (x13 := x13) (x14 := x14) (x15 := x15) (x16 := x16)
    have h0 : asg (.nm 8) (encO o) (E5 x0 x1 x2 d x4 L x6 (.l (Ns.map encO)) x8 x9 x10 x11 x12 x13 x14 x15 x16) = some (E5 x0 x1 x2 d x4 L x6 (.l (Ns.map encO)) (.d (encO o)) x9 x10 x11 x12 x13 x14 x15 x16) := by rw [asg_nm]; rfl
    refine ⟨t8, ?_⟩
    rw [List.map_cons, forK_step h0 step, ih, List.append_assoc, List.map_cons, List.flatten_cons]
theorem p2_part {d : Deal} (hd : GoodD d) {L Ns : List Ov} (hN : ∀ q ∈ Ns, Ab q.rest) (hh : decide (.even ∈ Ns) = hitB d L) {x0 x1 x2 x4 x6 x8 x9 x11 x12 x13 x14 x15 x16 : Sl} :
    ex S (Gn S defs 20) i_law_2 (E5 x0 x1 x2 d x4 L x6 (.l (Ns.map encO)) x8 x9 (.d (.str (if closedB d L then sNone else sOpen))) x11 x12 x13 x14 x15 x16) = some (.nx (E5 x0 x1 x2 d x4 L x6 (.l (Ns.map encO)) x8 x9 (.d (.str (wordO d L))) x11 x12 x13 x14 x15 x16)) := by
  have e : inD (.tup [.str [101, 118, 101, 110], .str []]) (.lst (Ns.map encO)) = some (.bl (hitB d L)) := by
    rw [← hh]
    exact in_oversL (p := .even) Ab.nil hN
  unfold wordO
  simp only [i_law_2, E5, EVa, glo_LETTERS, glo_EVEN, e]
  cases hitB d L with
  | true => simp only [EVa, glo_LETTERS, glo_EVEN]; rfl
  | false => simp only [EVa, glo_LETTERS, glo_EVEN]; rfl
theorem word_ok5 (d : Deal) (L : List Ov) : ∀ c ∈ wordO d L, c < 1114112 := by
  unfold wordO
  split
  · decide
  · split <;> decide
theorem p3_part {d : Deal} (hd : GoodD d) {n : Nat} (hn : n ≤ 8) {L : List Ov} (h : IsReach d n L) {x0 x1 x2 x6 x7 x8 x9 x11 x12 x13 x14 x15 x16 : Sl} :
    ex S (Gn S defs 20) i_law_3 (E5 x0 x1 x2 d (.d (.int (n : Nat))) L x6 x7 x8 x9 (.d (.str (wordO d L))) x11 x12 x13 x14 x15 x16) = some (.nx (E5 x0 x1 x2 d (.d (.int (n : Nat))) L x6 x7 x8 x9 (.d (.str (wordO d L))) x11 x12 x13 x14 x15 x16)) := by
  have e : Gn S defs 20 9 [encD d, .int (n : Nat)] = some (.str (wordO d L)) := G_sorted_out 14 hd hn h
  simp only [i_law_3, E5, EVa, glo_LETTERS, glo_EVEN, e, DL.ne_str (word_ok5 d L) (word_ok5 d L), decide_true, Bool.not_true]
theorem jk_turn {d : Deal} {L : List Ov} (hm : ∀ p ∈ L, Mid 8 p) (hl : L.length ≤ 1100) {p : Pr} (hp : PrOk p) {xs : List D} (hx : xs.length ≤ 1000) {x0 x1 x2 x4 x6 x7 x8 x9 x10 x13 x14 x15 x16 : Sl} :
    ∃ y, thOk y ∧ exs S (Gn S defs 20) b_law_3 (E5 x0 x1 x2 d x4 L x6 x7 x8 x9 x10 (.l xs) (.d (pD p)) x13 x14 x15 x16) = some (.nx (E5 x0 x1 x2 d x4 L x6 x7 x8 x9 x10 (.l (xs ++ [y])) (.d (pD p)) x13 x14 x15 x16)) := by
  obtain ⟨ys, y1, y2⟩ := sort_prs (xs := L.map encO ++ [pD p]) (fun x hx => (List.mem_append.mp hx).elim (due_prs hm x) fun z => ⟨p, hp, List.mem_singleton.mp z⟩) (by rw [List.length_append, List.length_map, List.length_singleton]; omega)
  refine ⟨.tup ys, y2, ?_⟩
  simp only [b_law_3, E5, EVa, glo_LETTERS, glo_EVEN]
  rw [add_tup (by rw [List.length_map, List.length_singleton]; omega)]
  simp only [EVa, glo_LETTERS, glo_EVEN, y1]
  rw [appK_of (by omega)]
  simp only [EVa, glo_LETTERS, glo_EVEN]
theorem od_turn {ns : List Int} {x j : Nat} {d : Deal} {L : List Ov} (hm : ∀ p ∈ L, Mid 8 p) (hl : L.length ≤ 1100) {xs : List D} (hx : xs.length ≤ 1000) {x2 x4 x6 x7 x8 x9 x10 x12 x14 x15 x16 : Sl} :
    ∃ y, thOk y ∧ exs S (Gn S defs 20) b_law_4 (E5 (.d (.scr ns)) (.d (.int (x : Nat))) x2 d x4 L x6 x7 x8 x9 x10 (.l xs) x12 (.d (.int (j : Nat))) x14 x15 x16) = some (.nx (E5 (.d (.scr ns)) (.d (.int (x : Nat))) x2 d x4 L x6 x7 x8 x9 x10 (.l (xs ++ [y])) x12 (.d (.int (j : Nat))) x14 x15 x16)) := by
  obtain ⟨y, ⟨y1, y2⟩, y3⟩ := G_odd 16 (B := 1100) (by omega) (by omega) 2 (.tup (L.map encO)) (cellF ns 9 + 17 * (j : Int) + 5 * (x : Int)) (due_fd hm hl) (due_tsi hm) (by omega)
  have y3' : Gn S defs 20 17 [.tup (L.map encO), .int (cellF ns 9 + 17 * (j : Int) + 5 * (x : Int))] = some y := y3
  have hc : Gn S defs 20 10 [.scr ns, .int 9] = some (.int (cellF ns 9)) := G_cell 19 (j := 9)
  refine ⟨y, ⟨fd_up (by omega) _ _ _ (by omega) y1, by omega⟩, ?_⟩
  simp only [b_law_4, E5, EVa, glo_LETTERS, glo_EVEN, hc, mul_l (show -(2 ^ 64) < (17 : Int) ∧ (17 : Int) < 2 ^ 64 by omega), mul_l (show -(2 ^ 64) < (5 : Int) ∧ (5 : Int) < 2 ^ 64 by omega), y3']
  rw [appK_of (by omega)]
  simp only [EVa, glo_LETTERS, glo_EVEN]
theorem th_turn {d : Deal} (hd : GoodD d) {L : List Ov} {y : D} (hy : thOk y) {x0 x1 x2 x4 x6 x7 x8 x9 x10 x11 x12 x13 x15 x16 : Sl} :
    ∃ t15 t16, exs S (Gn S defs 20) b_law_5 (E5 x0 x1 x2 d x4 L x6 x7 x8 x9 x10 x11 x12 x13 (.d y) x15 x16) = some (.nx (E5 x0 x1 x2 d x4 L x6 x7 x8 x9 x10 x11 x12 x13 (.d y) t15 t16)) := by
  obtain ⟨b, b1, b2⟩ := both_paper 14 16 hd hy.1 (by omega) hy.2
  have b1' : Gn S defs 20 6 [encD d, y] = some (.bl b) := b1
  have b2' : Gn S defs 20 18 [encD d, y] = some (.bl b) := b2
  refine ⟨.d (.bl b), .d (.bl b), ?_⟩
  cases b with
  | true => simp only [b_law_5, i_law_4, E5, EVa, glo_LETTERS, glo_EVEN, b1', b2', decide_true, Bool.not_true, show decide (true = false) = false from rfl, show decide (false = true) = false from rfl, Bool.not_false]
  | false => simp only [b_law_5, i_law_4, E5, EVa, glo_LETTERS, glo_EVEN, b1', b2', decide_true, Bool.not_true, show decide (true = false) = false from rfl, show decide (false = true) = false from rfl, Bool.not_false]
theorem jk_loop {d : Deal} {L : List Ov} (hm : ∀ p ∈ L, Mid 8 p) (hl : L.length ≤ 1100) {x0 x1 x2 x4 x6 x7 x8 x9 x10 x13 x14 x15 x16 : Sl} : ∀ (ps : List Pr) (xs : List D) (x12 : Sl), (∀ p ∈ ps, PrOk p) → (∀ y ∈ xs, thOk y) → xs.length + ps.length ≤ 1000 →
    ∃ zs t12, (∀ y ∈ zs, thOk y) ∧ zs.length = xs.length + ps.length ∧ forK (.nm 12) (exs S (Gn S defs 20) b_law_3) (E5 x0 x1 x2 d x4 L x6 x7 x8 x9 x10 (.l xs) x12 x13 x14 x15 x16) (ps.map pD) = some (.nx (E5 x0 x1 x2 d x4 L x6 x7 x8 x9 x10 (.l zs) t12 x13 x14 x15 x16))
  | [], xs, x12, _, h, _ => ⟨xs, x12, h, rfl, by rw [List.map_nil, forK_nil]⟩
  | p :: ps, xs, x12, hp, h, hn => by
    rw [List.length_cons] at hn
    obtain ⟨y, y1, y2⟩ := jk_turn hm hl (hp p List.mem_cons_self) (xs := xs) (by omega) (d := d) (x0 := x0) (x1 := x1) (x2 := x2) (x4 := x4) (x6 := x6) (x7 := x7) (x8 := x8) (x9 := x9) (x10 := x10) (x13 := x13) (x14 := x14) (x15 := x15) (x16 := x16)
    obtain ⟨zs, t12, z1, z2, z3⟩ := jk_loop hm hl ps (xs ++ [y]) (.d (pD p)) (fun q hq => hp q (List.mem_cons_of_mem _ hq)) (fun z hz => (List.mem_append.mp hz).elim (h z) fun e => by rw [List.mem_singleton.mp e]; exact y1) (by rw [List.length_append, List.length_singleton]; omega) (d := d) (x0 := x0) (x1 := x1) (x2 := x2) (x4 := x4) (x6 := x6) (x7 := x7) (x8 := x8) (x9 := x9) (x10 := x10) (x13 := x13) (x14 := x14) (x15 := x15) (x16 := x16)
    have h0 : asg (.nm 12) (pD p) (E5 x0 x1 x2 d x4 L x6 x7 x8 x9 x10 (.l xs) x12 x13 x14 x15 x16) = some (E5 x0 x1 x2 d x4 L x6 x7 x8 x9 x10 (.l xs) (.d (pD p)) x13 x14 x15 x16) := by rw [asg_nm]; rfl
    exact ⟨zs, t12, z1, by rw [z2]; simp; omega, by rw [List.map_cons, forK_step h0 y2]; exact z3⟩
theorem od_loop {ns : List Int} {x : Nat} {d : Deal} {L : List Ov} (hm : ∀ p ∈ L, Mid 8 p) (hl : L.length ≤ 1100) {x2 x4 x6 x7 x8 x9 x10 x12 x14 x15 x16 : Sl} : ∀ (js : List Nat) (xs : List D) (x13 : Sl), (∀ y ∈ xs, thOk y) → xs.length + js.length ≤ 1000 →
    ∃ zs t13, (∀ y ∈ zs, thOk y) ∧ zs.length = xs.length + js.length ∧ forK (.nm 13) (exs S (Gn S defs 20) b_law_4) (E5 (.d (.scr ns)) (.d (.int (x : Nat))) x2 d x4 L x6 x7 x8 x9 x10 (.l xs) x12 x13 x14 x15 x16) (js.map fun j => D.int (j : Nat)) = some (.nx (E5 (.d (.scr ns)) (.d (.int (x : Nat))) x2 d x4 L x6 x7 x8 x9 x10 (.l zs) x12 t13 x14 x15 x16))
  | [], xs, x13, h, _ => ⟨xs, x13, h, rfl, by rw [List.map_nil, forK_nil]⟩
  | j :: js, xs, x13, h, hn => by
    rw [List.length_cons] at hn
    obtain ⟨y, y1, y2⟩ := od_turn hm hl (xs := xs) (by omega) (d := d) (ns := ns) (x := x) (j := j) (x2 := x2) (x4 := x4) (x6 := x6) (x7 := x7) (x8 := x8) (x9 := x9) (x10 := x10) (x12 := x12) (x14 := x14) (x15 := x15) (x16 := x16)
    obtain ⟨zs, t13, z1, z2, z3⟩ := od_loop hm hl js (xs ++ [y]) (.d (.int (j : Nat))) (fun z hz => (List.mem_append.mp hz).elim (h z) fun e => by rw [List.mem_singleton.mp e]; exact y1) (by rw [List.length_append, List.length_singleton]; omega) (d := d) (ns := ns) (x := x) (x2 := x2) (x4 := x4) (x6 := x6) (x7 := x7) (x8 := x8) (x9 := x9) (x10 := x10) (x12 := x12) (x14 := x14) (x15 := x15) (x16 := x16)
    have h0 : asg (.nm 13) (.int (j : Nat)) (E5 (.d (.scr ns)) (.d (.int (x : Nat))) x2 d x4 L x6 x7 x8 x9 x10 (.l xs) x12 x13 x14 x15 x16) = some (E5 (.d (.scr ns)) (.d (.int (x : Nat))) x2 d x4 L x6 x7 x8 x9 x10 (.l xs) x12 (.d (.int (j : Nat))) x14 x15 x16) := by rw [asg_nm]; rfl
    exact ⟨zs, t13, z1, by rw [z2]; simp; omega, by rw [List.map_cons, forK_step h0 y2]; exact z3⟩
theorem th_loop {d : Deal} (hd : GoodD d) {L : List Ov} {x0 x1 x2 x4 x6 x7 x8 x9 x10 x11 x12 x13 : Sl} : ∀ (ys : List D) (x14 x15 x16 : Sl), (∀ y ∈ ys, thOk y) →
    ∃ t14 t15 t16, forK (.nm 14) (exs S (Gn S defs 20) b_law_5) (E5 x0 x1 x2 d x4 L x6 x7 x8 x9 x10 x11 x12 x13 x14 x15 x16) ys = some (.nx (E5 x0 x1 x2 d x4 L x6 x7 x8 x9 x10 x11 x12 x13 t14 t15 t16))
  | [], x14, x15, x16, _ => ⟨x14, x15, x16, by rw [forK_nil]⟩
  | y :: ys, x14, x15, x16, h => by
    obtain ⟨t15, t16, e⟩ := th_turn hd (h y List.mem_cons_self) (L := L) (x0 := x0) (x1 := x1) (x2 := x2) (x4 := x4) (x6 := x6) (x7 := x7) (x8 := x8) (x9 := x9) (x10 := x10) (x11 := x11) (x12 := x12) (x13 := x13) (x15 := x15) (x16 := x16)
    obtain ⟨u14, u15, u16, ih⟩ := th_loop hd ys (.d y) t15 t16 (fun z hz => h z (List.mem_cons_of_mem _ hz)) (L := L) (x0 := x0) (x1 := x1) (x2 := x2) (x4 := x4) (x6 := x6) (x7 := x7) (x8 := x8) (x9 := x9) (x10 := x10) (x11 := x11) (x12 := x12) (x13 := x13)
    have h0 : asg (.nm 14) y (E5 x0 x1 x2 d x4 L x6 x7 x8 x9 x10 x11 x12 x13 x14 x15 x16) = some (E5 x0 x1 x2 d x4 L x6 x7 x8 x9 x10 x11 x12 x13 (.d y) x15 x16) := by rw [asg_nm]; rfl
    exact ⟨u14, u15, u16, by rw [forK_step h0 e]; exact ih⟩
def junks : List Pr := [(sAbove, []), (sBelow, []), (sAbove, [99]), (sBelow, [65, 32, 98]), (sEven, [122, 122]), (sNone, [98, 98, 98, 98, 98, 98, 98, 98, 98])]
theorem junks_ok : ∀ p ∈ junks, PrOk p := by decide
theorem things9 {L : List Ov} (hm : ∀ p ∈ L, Mid 8 p) (hl : L.length ≤ 1100) {ys : List D} (hy : thOk (.tup ys)) : ∀ x ∈ [D.tup (L.map encO), .non, .tup [], .tup (cut (L.map encO) (some 1) none), .tup (cut (L.map encO) none (some (-1))), .tup (L.map encO).reverse, .tup (L.map encO ++ [.tup [.str [98, 101, 108, 111, 119], .str [98, 98, 98, 98, 98, 98, 98, 98, 98]]]), .tup (.tup [.str [101, 118, 101, 110], .str []] :: L.map encO), .tup ys], thOk x := by
  have hp := due_prs hm
  have h1 : ∀ l : List D, (∀ x ∈ l, x ∈ L.map encO) → l.length ≤ L.length → thOk (.tup l) := fun l h1 h2 => prs_th (fun x hx => hp x (h1 x hx)) (by omega)
  have lm : (L.map encO).length = L.length := List.length_map ..
  have c1 := cut_len (L.map encO) (some 1) none
  have c2 := cut_len (L.map encO) none (some (-1))
  intro x hx
  simp only [List.mem_cons, List.not_mem_nil, or_false] at hx
  rcases hx with rfl | rfl | rfl | rfl | rfl | rfl | rfl | rfl | rfl
  · exact h1 _ (fun x h => h) (by omega)
  · exact ⟨fd_non, by decide⟩
  · exact h1 _ (fun x h => absurd h List.not_mem_nil) (Nat.zero_le _)
  · exact h1 _ (fun x h => mem_cut h) (by omega)
  · exact h1 _ (fun x h => mem_cut h) (by omega)
  · exact h1 _ (fun x h => List.mem_reverse.mp h) (by rw [List.length_reverse]; omega)
  · exact prs_th (fun x hx => (List.mem_append.mp hx).elim (hp x) fun z => ⟨(sBelow, [98, 98, 98, 98, 98, 98, 98, 98, 98]), by decide, List.mem_singleton.mp z⟩) (by rw [List.length_append, List.length_singleton]; omega)
  · exact prs_th (fun x hx => (List.mem_cons.mp hx).elim (fun z => ⟨(sEven, []), by decide, z⟩) (hp x)) (by rw [List.length_cons]; omega)
  · exact hy
theorem law_turn {ns : List Int} {x : Nat} {s2 s3 s4 s5 s6 s7 s8 s9 s10 s11 s12 s13 s14 s15 s16 : Sl} : ∃ t2 t3 t4 t5 t6 t7 t8 t9 t10 t11 t12 t13 t14 t15 t16, exs S (Gn S defs 20) b_law_1 [.d (.scr ns), .d (.int (x : Nat)), s2, s3, s4, s5, s6, s7, s8, s9, s10, s11, s12, s13, s14, s15, s16] = some (.nx [.d (.scr ns), .d (.int (x : Nat)), t2, t3, t4, t5, t6, t7, t8, t9, t10, t11, t12, t13, t14, t15, t16]) := by
  obtain ⟨d, hd, ed⟩ := G_deal 17 (cellF ns x + 3 * (x : Int))
  have ed' : Gn S defs 20 14 [.int (cellF ns x + 3 * (x : Int))] = some (encD d) := ed
  have hc8 : Gn S defs 20 10 [.scr ns, .int 8] = some (.int (cellF ns 8)) := G_cell 19 (j := 8)
  have hmx := mixF_lt (cell := cellF ns 8 + (x : Int)) (prime := 9901) (many := 8) (by omega)
  obtain ⟨n, hn⟩ : ∃ n : Nat, (n : Int) = 1 + mixF (cellF ns 8 + (x : Int)) 9901 8 := ⟨(1 + mixF (cellF ns 8 + (x : Int)) 9901 8).toNat, by omega⟩
  have hn8 : n ≤ 8 := by omega
  obtain ⟨L, hr, er⟩ := G_lreach 16 hd hn8
  have er' : Gn S defs 20 20 [encD d, .int (n : Nat)] = some (.tup (L.map encO)) := er
  have hmid := hr.mid hd
  have hm : ∀ p ∈ L, Mid 8 p := fun p hp => by
    obtain ⟨h1, h2, h3, h4, h5⟩ := hmid p hp
    exact ⟨h1, h2, h3, h4, by omega⟩
  have hl := hr.len hd hn8
  have dth : thOk (.tup (L.map encO)) := prs_th (due_prs hm) (by rw [List.length_map]; omega)
  obtain ⟨b, b1, b2⟩ := both_paper 14 16 hd dth.1 (by omega) dth.2
  have hb : b = closedB d L := by
    rw [G_is_paper 14 hd (by omega) hm hr.1 (by omega)] at b1
    cases b1
    rfl
  have b2' : Gn S defs 20 18 [encD d, .tup (L.map encO)] = some (.bl (closedB d L)) := by rw [← hb]; exact b2
  have epf : ∀ (c : Bool), (if c = true then some (D.tup (L.map encO)) else some .non) = some (encOL (if c then some L else none)) := fun c => by cases c <;> rfl
  have hop : isNon (encOL (if closedB d L then some L else none)) = !closedB d L := by cases closedB d L <;> rfl
  simp only [b_law_1, EVa, glo_LETTERS, glo_EVEN, G_cell 19, mul_l (show -(2 ^ 64) < (3 : Int) ∧ (3 : Int) < 2 ^ 64 by omega), ed', hc8, G_mix 19 (show (0 : Int) < 9901 by omega) (show (9901 : Int) < 100000 by omega) (show (0 : Int) < 8 by omega), ← hn, er', b2']
  have hif : ifE (ev S (Gn S defs 20) (.var 5)) (ev S (Gn S defs 20) .non) [.d (.scr ns), .d (.int (x : Nat)), .d (.int (cellF ns x + 3 * (x : Int))), .d (encD d), .d (.int (n : Nat)), .d (.tup (L.map encO)), s6, s7, s8, s9, s10, s11, s12, s13, s14, s15, s16] (closedB d L) = some (encOL (if closedB d L then some L else none)) := by
    cases closedB d L with
    | true => simp only [EVa, glo_LETTERS, glo_EVEN]; rfl
    | false => simp only [EVa, glo_LETTERS, glo_EVEN]; rfl
  rw [hif]
  simp only [EVa, glo_LETTERS, glo_EVEN]
  have s1 := p1_part hd hn8 hr (x0 := .d (.scr ns)) (x1 := .d (.int (x : Nat))) (x2 := .d (.int (cellF ns x + 3 * (x : Int)))) (x7 := s7) (x8 := s8) (x9 := s9) (x10 := s10) (x11 := s11) (x12 := s12) (x13 := s13) (x14 := s14) (x15 := s15) (x16 := s16)
  unfold E5 at s1
  rw [s1]
  simp only [EVa, glo_LETTERS, glo_EVEN]
  rw [add_tup (by simp; omega)]
  simp only [EVa, glo_LETTERS, glo_EVEN, List.cons_append, List.nil_append]
  have hos : ∀ o ∈ .even :: L, OvOk 800000 o ∧ o ≠ .no := fun o ho => by
    rcases List.mem_cons.mp ho with rfl | ho
    · exact ⟨⟨Ab.nil, Nat.zero_le _⟩, fun z => nomatch z⟩
    · exact ⟨⟨(hm o ho).2.2.2.1, by have := (hm o ho).2.2.2.2; omega⟩, (hm o ho).1⟩
  obtain ⟨t8, e8⟩ := led_loop hd (.even :: L) [] s8 hos (by rw [List.length_cons, List.length_nil]; omega) (L := L) (x0 := .d (.scr ns)) (x1 := .d (.int (x : Nat))) (x2 := .d (.int (cellF ns x + 3 * (x : Int)))) (x4 := .d (.int (n : Nat))) (x6 := .d (encOL (if closedB d L then some L else none))) (x9 := s9) (x10 := s10) (x11 := s11) (x12 := s12) (x13 := s13) (x14 := s14) (x15 := s15) (x16 := s16)
  rw [List.nil_append] at e8
  have hN : ∀ q ∈ ((.even :: L).map (gsO d)).flatten, Ab q.rest := fun q hq => by
    obtain ⟨l, hl', hq⟩ := List.mem_flatten.mp hq
    obtain ⟨o, ho, rfl⟩ := List.mem_map.mp hl'
    obtain ⟨j, hj, rfl⟩ := List.mem_map.mp hq
    exact (nx_ok hd (hos o ho).1 (List.mem_range.mp hj)).1
  have hhl := hit_led (d := d) (L := L)
  generalize ((.even :: L).map (gsO d)).flatten = Ns at e8 hN hhl
  unfold E5 at e8
  rw [List.map_cons, encO_even, List.map_nil] at e8
  rw [e8]
  simp only [EVa, glo_LETTERS, glo_EVEN, hop]
  have hif2 : ∀ ρ : En, ifE (ev S (Gn S defs 20) (.str [111, 112, 101, 110])) (ev S (Gn S defs 20) (.str [110, 111, 110, 101])) ρ (!closedB d L) = some (.str (if closedB d L then sNone else sOpen)) := fun ρ => by
    cases closedB d L with
    | true => simp only [Bool.not_true, EVa, glo_LETTERS, glo_EVEN]; rfl
    | false => simp only [Bool.not_false, EVa, glo_LETTERS, glo_EVEN]; rfl
  rw [hif2]
  simp only [EVa, glo_LETTERS, glo_EVEN]
  have s2' := p2_part hd hN hhl (x0 := .d (.scr ns)) (x1 := .d (.int (x : Nat))) (x2 := .d (.int (cellF ns x + 3 * (x : Int)))) (x4 := .d (.int (n : Nat))) (x6 := .d (encOL (if closedB d L then some L else none))) (x8 := t8) (x9 := s9) (x11 := s11) (x12 := s12) (x13 := s13) (x14 := s14) (x15 := s15) (x16 := s16)
  unfold E5 at s2'
  rw [s2']
  simp only [EVa, glo_LETTERS, glo_EVEN]
  have s3' := p3_part hd hn8 hr (x0 := .d (.scr ns)) (x1 := .d (.int (x : Nat))) (x2 := .d (.int (cellF ns x + 3 * (x : Int)))) (x6 := .d (encOL (if closedB d L then some L else none))) (x7 := .l (Ns.map encO)) (x8 := t8) (x9 := s9) (x11 := s11) (x12 := s12) (x13 := s13) (x14 := s14) (x15 := s15) (x16 := s16)
  unfold E5 at s3'
  rw [s3']
  simp only [EVa, glo_LETTERS, glo_EVEN]
  have lm : (L.map encO).length = L.length := List.length_map ..
  obtain ⟨ys, y1, y2⟩ := sort_prs (xs := L.map encO ++ [pD (sAbove, [97, 98, 97, 98])]) (fun x hx => (List.mem_append.mp hx).elim (due_prs hm x) fun z => ⟨_, by decide, List.mem_singleton.mp z⟩) (by rw [List.length_append, List.length_singleton]; omega)
  have y1' : sortY [.tup (L.map encO ++ [.tup [.str [97, 98, 111, 118, 101], .str [97, 98, 97, 98]]])] = some (.lst ys) := y1
  have a1 : ∀ y : D, addD (.tup (L.map encO)) (.tup [y]) = some (.tup (L.map encO ++ [y])) := fun y => add_tup (by rw [List.length_singleton]; omega)
  have a2 : ∀ y : D, addD (.tup [y]) (.tup (L.map encO)) = some (.tup (y :: L.map encO)) := fun y => by rw [add_tup (by rw [List.length_singleton]; omega)]; rfl
  simp only [EVa, glo_LETTERS, glo_EVEN, mul9, a1, a2, Int.reduceNeg]
  rw [catL_of (by simp)]
  simp only [EVa, glo_LETTERS, glo_EVEN, a1, y1']
  rw [appK_of (by simp)]
  simp only [EVa, glo_LETTERS, glo_EVEN, mul9, List.cons_append, List.nil_append]
  have h9 := things9 hm hl y2
  generalize hT : [D.tup (L.map encO), .non, .tup [], .tup (cut (L.map encO) (some 1) none), .tup (cut (L.map encO) none (some (-1))), .tup (L.map encO).reverse, .tup (L.map encO ++ [.tup [.str [98, 101, 108, 111, 119], .str [98, 98, 98, 98, 98, 98, 98, 98, 98]]]), .tup (.tup [.str [101, 118, 101, 110], .str []] :: L.map encO), .tup ys] = T at h9 ⊢
  have hT9 : T.length = 9 := by rw [← hT]; rfl
  obtain ⟨zs, t12, z1, z2, z3⟩ := jk_loop (d := d) hm hl junks T s12 junks_ok h9 (by rw [hT9]; decide) (x0 := .d (.scr ns)) (x1 := .d (.int (x : Nat))) (x2 := .d (.int (cellF ns x + 3 * (x : Int)))) (x4 := .d (.int (n : Nat))) (x6 := .d (encOL (if closedB d L then some L else none))) (x7 := .l (Ns.map encO)) (x8 := t8) (x9 := s9) (x10 := .d (.str (wordO d L))) (x13 := s13) (x14 := s14) (x15 := s15) (x16 := s16)
  have hz : zs.length = 15 := by rw [z2, hT9]; rfl
  simp only [E5, junks, List.map_cons, List.map_nil, pD] at z3
  rw [z3]
  simp only [EVa, glo_LETTERS, glo_EVEN]
  rw [rng1K_of (by omega), show (12 : Int).toNat = 12 from rfl, rng0]
  simp only [EVa, glo_LETTERS, glo_EVEN]
  obtain ⟨ws, t13, w1, w2, w3⟩ := od_loop (d := d) hm hl (List.range 12) zs s13 z1 (by rw [hz, List.length_range]; omega) (ns := ns) (x := x) (x2 := .d (.int (cellF ns x + 3 * (x : Int)))) (x4 := .d (.int (n : Nat))) (x6 := .d (encOL (if closedB d L then some L else none))) (x7 := .l (Ns.map encO)) (x8 := t8) (x9 := s9) (x10 := .d (.str (wordO d L))) (x12 := t12) (x14 := s14) (x15 := s15) (x16 := s16)
  unfold E5 at w3
  rw [w3]
  simp only [EVa, glo_LETTERS, glo_EVEN]
  obtain ⟨t14, t15, t16, v3⟩ := th_loop hd ws s14 s15 s16 w1 (L := L) (x0 := .d (.scr ns)) (x1 := .d (.int (x : Nat))) (x2 := .d (.int (cellF ns x + 3 * (x : Int)))) (x4 := .d (.int (n : Nat))) (x6 := .d (encOL (if closedB d L then some L else none))) (x7 := .l (Ns.map encO)) (x8 := t8) (x9 := s9) (x10 := .d (.str (wordO d L))) (x11 := .d (.lst ws)) (x12 := t12) (x13 := t13)
  unfold E5 at v3
  rw [v3]
  simp only [EVa, glo_LETTERS, glo_EVEN]
  exact ⟨_, _, _, _, _, _, _, _, _, _, _, _, _, _, _, rfl⟩
theorem p5_part {ρ : En} : ex S (Gn S defs 20) i_law_5 ρ = some (.nx ρ) := by
  have e1 : Gn S defs 20 8 [.tup [.tup [.str [97], .str [98]]], .int 1] = some (.tup []) := paper1 13
  have e2 : Gn S defs 20 9 [.tup [.tup [.str [97, 98], .str [97]]], .int 3] = some (.str [110, 111, 110, 101]) := word1 14
  have n1 : neD (.tup []) (.tup []) = some (.bl false) := by
    rw [ne_of' (n := 1) (m := 1) (by rw [gdp_tup]; rfl) (by rw [gdp_tup]; rfl) (by omega) (by omega), deq_tup]
    rfl
  have n2 : neD (.str [110, 111, 110, 101]) (.str [110, 111, 110, 101]) = some (.bl false) := by
    rw [DL.ne_str (by decide) (by decide)]
    rfl
  simp only [i_law_5, EVa, glo_LETTERS, glo_EVEN, e1, e2, n1, n2]
theorem law_true (ns : List Int) (hns : ns.length ≤ 63) : runD S (Gn S defs 20) d_law [.scr ns] = some (.bl true) := by
  rw [runD_eq rfl, show en0 d_law.N.length [D.scr ns] = [.d (.scr ns), .no, .no, .no, .no, .no, .no, .no, .no, .no, .no, .no, .no, .no, .no, .no, .no] from rfl]
  simp only [d_law, EVa, glo_LETTERS, glo_EVEN]
  rw [rng1K_of (by omega), show (8 : Int).toNat = 8 from rfl, rng0]
  simp only [EVa, glo_LETTERS, glo_EVEN]
  obtain ⟨ρ', h1, h2⟩ := forK_inv (t := .nm 1) (gb := exs S (Gn S defs 20) b_law_1) (fun i : Nat => D.int (i : Nat))
    (fun pre ρ => ∃ s1 s2 s3 s4 s5 s6 s7 s8 s9 s10 s11 s12 s13 s14 s15 s16, ρ = [.d (.scr ns), s1, s2, s3, s4, s5, s6, s7, s8, s9, s10, s11, s12, s13, s14, s15, s16]) (List.range 8) [.d (.scr ns), .no, .no, .no, .no, .no, .no, .no, .no, .no, .no, .no, .no, .no, .no, .no, .no]
    ⟨_, _, _, _, _, _, _, _, _, _, _, _, _, _, _, _, rfl⟩ (fun pre x post ρ hall hI => by
      obtain ⟨s1, s2, s3, s4, s5, s6, s7, s8, s9, s10, s11, s12, s13, s14, s15, s16, rfl⟩ := hI
      obtain ⟨t2, t3, t4, t5, t6, t7, t8, t9, t10, t11, t12, t13, t14, t15, t16, e⟩ := law_turn (ns := ns) (x := x) (s2 := s2) (s3 := s3) (s4 := s4) (s5 := s5) (s6 := s6) (s7 := s7) (s8 := s8) (s9 := s9) (s10 := s10) (s11 := s11) (s12 := s12) (s13 := s13) (s14 := s14) (s15 := s15) (s16 := s16)
      exact ⟨_, _, asg_nm, e, _, _, _, _, _, _, _, _, _, _, _, _, _, _, _, _, rfl⟩)
  rw [h1]
  obtain ⟨s1, s2, s3, s4, s5, s6, s7, s8, s9, s10, s11, s12, s13, s14, s15, s16, rfl⟩ := h2
  have e3 : Gn S defs 20 9 [.tup [.tup [.str [97, 97], .str [97]]], .int 3] = some (.str [111, 112, 101, 110]) := word2 14
  have q3 : eqD (.str [111, 112, 101, 110]) (.str [111, 112, 101, 110]) = some (.bl true) := by
    rw [DL.eq_str (by decide) (by decide)]
    rfl
  simp only [EVa, glo_LETTERS, glo_EVEN]
  rw [p5_part]
  simp only [EVa, glo_LETTERS, glo_EVEN, e3, q3]
end Lw
namespace Lw
open PySem PySem.Spec L2 DL
open PyProof.Rows hiding St
theorem all_mk {P : Program} {w : World} {K : PySem.W.Frag} {h : Heap} {mg : Str → Option Value} {fa : Addr} (X : K.In h) (G : h.Ns mainGlobals mg) (hfa : mg "law" = some (.ref fa))
    {f0 : Addr} {oc0 kV0 dc0 pm0 cd0 ct0 : Value} {od0 an0 : Option Addr} {sl0 : Array (Option Value)}
    {f1 : Addr} {oc1 kV1 dc1 pm1 cd1 ct1 : Value} {od1 an1 : Option Addr} {sl1 : Array (Option Value)}
    {f2 : Addr} {oc2 kV2 dc2 pm2 cd2 ct2 : Value} {od2 an2 : Option Addr} {sl2 : Array (Option Value)}
    {f3 : Addr} {oc3 kV3 dc3 pm3 cd3 ct3 : Value} {od3 an3 : Option Addr} {sl3 : Array (Option Value)}
    {f4 : Addr} {oc4 kV4 dc4 pm4 cd4 ct4 : Value} {od4 an4 : Option Addr} {sl4 : Array (Option Value)}
    {f5 : Addr} {oc5 kV5 dc5 pm5 cd5 ct5 : Value} {od5 an5 : Option Addr} {sl5 : Array (Option Value)}
    {f6 : Addr} {oc6 kV6 dc6 pm6 cd6 ct6 : Value} {od6 an6 : Option Addr} {sl6 : Array (Option Value)}
    {f7 : Addr} {oc7 kV7 dc7 pm7 cd7 ct7 : Value} {od7 an7 : Option Addr} {sl7 : Array (Option Value)}
    {f8 : Addr} {oc8 kV8 dc8 pm8 cd8 ct8 : Value} {od8 an8 : Option Addr} {sl8 : Array (Option Value)}
    {f9 : Addr} {oc9 kV9 dc9 pm9 cd9 ct9 : Value} {od9 an9 : Option Addr} {sl9 : Array (Option Value)}
    {f10 : Addr} {oc10 kV10 dc10 pm10 cd10 ct10 : Value} {od10 an10 : Option Addr} {sl10 : Array (Option Value)}
    {f11 : Addr} {oc11 kV11 dc11 pm11 cd11 ct11 : Value} {od11 an11 : Option Addr} {sl11 : Array (Option Value)}
    {f12 : Addr} {oc12 kV12 dc12 pm12 cd12 ct12 : Value} {od12 an12 : Option Addr} {sl12 : Array (Option Value)}
    {f13 : Addr} {oc13 kV13 dc13 pm13 cd13 ct13 : Value} {od13 an13 : Option Addr} {sl13 : Array (Option Value)}
    {f14 : Addr} {oc14 kV14 dc14 pm14 cd14 ct14 : Value} {od14 an14 : Option Addr} {sl14 : Array (Option Value)}
    {f15 : Addr} {oc15 kV15 dc15 pm15 cd15 ct15 : Value} {od15 an15 : Option Addr} {sl15 : Array (Option Value)}
    {f16 : Addr} {oc16 kV16 dc16 pm16 cd16 ct16 : Value} {od16 an16 : Option Addr} {sl16 : Array (Option Value)}
    {f17 : Addr} {oc17 kV17 dc17 pm17 cd17 ct17 : Value} {od17 an17 : Option Addr} {sl17 : Array (Option Value)}
    {f18 : Addr} {oc18 kV18 dc18 pm18 cd18 ct18 : Value} {od18 an18 : Option Addr} {sl18 : Array (Option Value)}
    {f19 : Addr} {oc19 kV19 dc19 pm19 cd19 ct19 : Value} {od19 an19 : Option Addr} {sl19 : Array (Option Value)}
    {f20 : Addr} {oc20 kV20 dc20 pm20 cd20 ct20 : Value} {od20 an20 : Option Addr} {sl20 : Array (Option Value)}
    {f21 : Addr} {oc21 kV21 dc21 pm21 cd21 ct21 : Value} {od21 an21 : Option Addr} {sl21 : Array (Option Value)}
    (A0 : FAt K "over_of" (topS 3) f0 oc0 kV0 dc0 pm0 cd0 ct0 od0 an0 sl0)
    (A1 : FAt K "next_over" (topS 4) f1 oc1 kV1 dc1 pm1 cd1 ct1 od1 an1 sl1)
    (A2 : FAt K "fitting" (topS 5) f2 oc2 kV2 dc2 pm2 cd2 ct2 od2 an2 sl2)
    (A3 : FAt K "is_over" (topS 7) f3 oc3 kV3 dc3 pm3 cd3 ct3 od3 an3 sl3)
    (A4 : FAt K "goals" (topS 8) f4 oc4 kV4 dc4 pm4 cd4 ct4 od4 an4 sl4)
    (A5 : FAt K "is_closed" (topS 9) f5 oc5 kV5 dc5 pm5 cd5 ct5 od5 an5 sl5)
    (A6 : FAt K "is_paper" (topS 10) f6 oc6 kV6 dc6 pm6 cd6 ct6 od6 an6 sl6)
    (A7 : FAt K "reach" (topS 11) f7 oc7 kV7 dc7 pm7 cd7 ct7 od7 an7 sl7)
    (A8 : FAt K "paper" (topS 12) f8 oc8 kV8 dc8 pm8 cd8 ct8 od8 an8 sl8)
    (A9 : FAt K "sorted_out" (topS 13) f9 oc9 kV9 dc9 pm9 cd9 ct9 od9 an9 sl9)
    (A10 : FAt K "_law_cell" (topS 15) f10 oc10 kV10 dc10 pm10 cd10 ct10 od10 an10 sl10)
    (A11 : FAt K "_law_mix" (topS 16) f11 oc11 kV11 dc11 pm11 cd11 ct11 od11 an11 sl11)
    (A12 : FAt K "_law_same" (topS 17) f12 oc12 kV12 dc12 pm12 cd12 ct12 od12 an12 sl12)
    (A13 : FAt K "_law_letters" (topS 18) f13 oc13 kV13 dc13 pm13 cd13 ct13 od13 an13 sl13)
    (A14 : FAt K "_law_deal" (topS 19) f14 oc14 kV14 dc14 pm14 cd14 ct14 od14 an14 sl14)
    (A15 : FAt K "_law_texts" (topS 20) f15 oc15 kV15 dc15 pm15 cd15 ct15 od15 an15 sl15)
    (A16 : FAt K "_law_over" (topS 21) f16 oc16 kV16 dc16 pm16 cd16 ct16 od16 an16 sl16)
    (A17 : FAt K "_law_odd" (topS 22) f17 oc17 kV17 dc17 pm17 cd17 ct17 od17 an17 sl17)
    (A18 : FAt K "_law_is_paper" (topS 23) f18 oc18 kV18 dc18 pm18 cd18 ct18 od18 an18 sl18)
    (A19 : FAt K "_law_led" (topS 24) f19 oc19 kV19 dc19 pm19 cd19 ct19 od19 an19 sl19)
    (A20 : FAt K "_law_reach" (topS 25) f20 oc20 kV20 dc20 pm20 cd20 ct20 od20 an20 sl20)
    (A21 : FAt K "law" (topS 26) f21 oc21 kV21 dc21 pm21 cd21 ct21 od21 an21 sl21)
    (hb : ∀ x ∈ S.bn, PySem.W.nsIn K mainGlobals x = some none) (hg : ∀ p ∈ S.gds, GAt K P w p.1 p.2) :
    ∃ fd : FuncData, (∀ (s : Shared) (v : Value), BindsTo s fd ⟨[v], []⟩ [("script", v)]) ∧ ∀ base : Heap, K.In base → base.Ns mainGlobals mg → FnOk P w K mg base CX0 21 fa fd ["script"] (spD ⟨K, P, w⟩ 1 (runD S (Gn S defs 20) d_law)) := by
  have M : ModOk S ⟨K, P, w⟩ mg := modOk_of X G hb hg
  have e := hfa.symm.trans (PySem.W.mg_of X G A21.a)
  cases e
  have D0 := A0.at X G (ps := ["above", "below"]) (fun _ _ _ _ _ _ us hl => match us, hl with | [_, _], _ => rfl)
  have D1 := A1.at X G (ps := ["deal", "one", "number"]) (fun _ _ _ _ _ _ us hl => match us, hl with | [_, _, _], _ => rfl)
  have D2 := A2.at X G (ps := ["deal", "one"]) (fun _ _ _ _ _ _ us hl => match us, hl with | [_, _], _ => rfl)
  have D3 := A3.at X G (ps := ["thing"]) (fun _ _ _ _ _ _ us hl => match us, hl with | [_], _ => rfl)
  have D4 := A4.at X G (ps := ["deal", "one"]) (fun _ _ _ _ _ _ us hl => match us, hl with | [_, _], _ => rfl)
  have D5 := A5.at X G (ps := ["deal", "some"]) (fun _ _ _ _ _ _ us hl => match us, hl with | [_, _], _ => rfl)
  have D6 := A6.at X G (ps := ["deal", "thing"]) (fun _ _ _ _ _ _ us hl => match us, hl with | [_, _], _ => rfl)
  have D7 := A7.at X G (ps := ["deal", "long"]) (fun _ _ _ _ _ _ us hl => match us, hl with | [_, _], _ => rfl)
  have D8 := A8.at X G (ps := ["deal", "long"]) (fun _ _ _ _ _ _ us hl => match us, hl with | [_, _], _ => rfl)
  have D9 := A9.at X G (ps := ["deal", "long"]) (fun _ _ _ _ _ _ us hl => match us, hl with | [_, _], _ => rfl)
  have D10 := A10.at X G (ps := ["script", "k"]) (fun _ _ _ _ _ _ us hl => match us, hl with | [_, _], _ => rfl)
  have D11 := A11.at X G (ps := ["cell", "prime", "many"]) (fun _ _ _ _ _ _ us hl => match us, hl with | [_, _, _], _ => rfl)
  have D12 := A12.at X G (ps := ["found", "due"]) (fun _ _ _ _ _ _ us hl => match us, hl with | [_, _], _ => rfl)
  have D13 := A13.at X G (ps := ["cell", "many"]) (fun _ _ _ _ _ _ us hl => match us, hl with | [_, _], _ => rfl)
  have D14 := A14.at X G (ps := ["cell"]) (fun _ _ _ _ _ _ us hl => match us, hl with | [_], _ => rfl)
  have D15 := A15.at X G (ps := ["deal", "row"]) (fun _ _ _ _ _ _ us hl => match us, hl with | [_, _], _ => rfl)
  have D16 := A16.at X G (ps := ["deal", "row"]) (fun _ _ _ _ _ _ us hl => match us, hl with | [_, _], _ => rfl)
  have D17 := A17.at X G (ps := ["thing", "cell"]) (fun _ _ _ _ _ _ us hl => match us, hl with | [_, _], _ => rfl)
  have D18 := A18.at X G (ps := ["deal", "thing"]) (fun _ _ _ _ _ _ us hl => match us, hl with | [_, _], _ => rfl)
  have D19 := A19.at X G (ps := ["deal", "one", "number"]) (fun _ _ _ _ _ _ us hl => match us, hl with | [_, _, _], _ => rfl)
  have D20 := A20.at X G (ps := ["deal", "long"]) (fun _ _ _ _ _ _ us hl => match us, hl with | [_, _], _ => rfl)
  have D21 := A21.at X G (ps := ["script"]) (fun _ _ _ _ _ _ us hl => match us, hl with | [_], _ => rfl)
  refine ⟨_, fun s v => .of_eq rfl, fun base _ _ => fn_code M D21 ck_law (all_ok M hS (fun d hd => ?_) (no_tab rfl) (fun _ _ _ => no_tab rfl) 20).1 (no_tab rfl)⟩
  simp only [defs, List.mem_cons, List.not_mem_nil, or_false] at hd
  rcases hd with rfl | rfl | rfl | rfl | rfl | rfl | rfl | rfl | rfl | rfl | rfl | rfl | rfl | rfl | rfl | rfl | rfl | rfl | rfl | rfl | rfl | rfl
  · exact .code D0 ck_over_of
  · exact .code D1 ck_next_over
  · exact .code D2 ck_fitting
  · exact .code D3 ck_is_over
  · exact .code D4 ck_goals
  · exact .code D5 ck_is_closed
  · exact .code D6 ck_is_paper
  · exact .code D7 ck_reach
  · exact .code D8 ck_paper
  · exact .code D9 ck_sorted_out
  · exact .code D10 ck__law_cell
  · exact .code D11 ck__law_mix
  · exact .code D12 ck__law_same
  · exact .code D13 ck__law_letters
  · exact .code D14 ck__law_deal
  · exact .code D15 ck__law_texts
  · exact .code D16 ck__law_over
  · exact .code D17 ck__law_odd
  · exact .code D18 ck__law_is_paper
  · exact .code D19 ck__law_led
  · exact .code D20 ck__law_reach
  · exact .code D21 ck_law
end Lw
open PySem PySem.W PyProof.Rows
set_option maxHeartbeats 0 in
theorem PySem.Challenge.cw_stonetexts_k05_papers_holds : PySem.Challenge.rw_stonetexts_k05_papers.Holds := by
  w_on; o_law; k_head; (case hw => w_witness2)
  k_fill
  refine L2.walk_of (l := PySem.Challenge.rw_stonetexts_k05_papers) (n := 63) (k := 21) (x := "script") (CX := fun _ => L2.CX0) (sp := fun w => DL.spD ⟨_, (PySem.Challenge.rw_stonetexts_k05_papers).prog, w⟩ 1 (DL.runD Lw.S (DL.Gn Lw.S Lw.defs 20) Lw.d_law)) rfl (by decide) rfl ⟨rfl, by decide, by decide⟩ (fun w h Y => PySem.W.kIn_of Y) ?F (fun _ _ a ns hl _ hS => DL.sp_end hS (Lw.law_true ns hl)) (fun _ _ _ _ _ h => h)
  case F =>
    intro w mg fa h KX G hmg
    refine' Lw.all_mk KX G hmg ⟨?a0, ?l0, ?c0, ?k0⟩ ⟨?a1, ?l1, ?c1, ?k1⟩ ⟨?a2, ?l2, ?c2, ?k2⟩ ⟨?a3, ?l3, ?c3, ?k3⟩ ⟨?a4, ?l4, ?c4, ?k4⟩ ⟨?a5, ?l5, ?c5, ?k5⟩ ⟨?a6, ?l6, ?c6, ?k6⟩ ⟨?a7, ?l7, ?c7, ?k7⟩ ⟨?a8, ?l8, ?c8, ?k8⟩ ⟨?a9, ?l9, ?c9, ?k9⟩ ⟨?a10, ?l10, ?c10, ?k10⟩ ⟨?a11, ?l11, ?c11, ?k11⟩ ⟨?a12, ?l12, ?c12, ?k12⟩ ⟨?a13, ?l13, ?c13, ?k13⟩ ⟨?a14, ?l14, ?c14, ?k14⟩ ⟨?a15, ?l15, ?c15, ?k15⟩ ⟨?a16, ?l16, ?c16, ?k16⟩ ⟨?a17, ?l17, ?c17, ?k17⟩ ⟨?a18, ?l18, ?c18, ?k18⟩ ⟨?a19, ?l19, ?c19, ?k19⟩ ⟨?a20, ?l20, ?c20, ?k20⟩ ⟨?a21, ?l21, ?c21, ?k21⟩ ?hb ?hg
    (case a0 => k_is); (case l0 => k_is); (case c0 => k_is); (case k0 => k_is)
    (case a1 => k_is); (case l1 => k_is); (case c1 => k_is); (case k1 => k_is)
    (case a2 => k_is); (case l2 => k_is); (case c2 => k_is); (case k2 => k_is)
    (case a3 => k_is); (case l3 => k_is); (case c3 => k_is); (case k3 => k_is)
    (case a4 => k_is); (case l4 => k_is); (case c4 => k_is); (case k4 => k_is)
    (case a5 => k_is); (case l5 => k_is); (case c5 => k_is); (case k5 => k_is)
    (case a6 => k_is); (case l6 => k_is); (case c6 => k_is); (case k6 => k_is)
    (case a7 => k_is); (case l7 => k_is); (case c7 => k_is); (case k7 => k_is)
    (case a8 => k_is); (case l8 => k_is); (case c8 => k_is); (case k8 => k_is)
    (case a9 => k_is); (case l9 => k_is); (case c9 => k_is); (case k9 => k_is)
    (case a10 => k_is); (case l10 => k_is); (case c10 => k_is); (case k10 => k_is)
    (case a11 => k_is); (case l11 => k_is); (case c11 => k_is); (case k11 => k_is)
    (case a12 => k_is); (case l12 => k_is); (case c12 => k_is); (case k12 => k_is)
    (case a13 => k_is); (case l13 => k_is); (case c13 => k_is); (case k13 => k_is)
    (case a14 => k_is); (case l14 => k_is); (case c14 => k_is); (case k14 => k_is)
    (case a15 => k_is); (case l15 => k_is); (case c15 => k_is); (case k15 => k_is)
    (case a16 => k_is); (case l16 => k_is); (case c16 => k_is); (case k16 => k_is)
    (case a17 => k_is); (case l17 => k_is); (case c17 => k_is); (case k17 => k_is)
    (case a18 => k_is); (case l18 => k_is); (case c18 => k_is); (case k18 => k_is)
    (case a19 => k_is); (case l19 => k_is); (case c19 => k_is); (case k19 => k_is)
    (case a20 => k_is); (case l20 => k_is); (case c20 => k_is); (case k20 => k_is)
    (case a21 => k_is); (case l21 => k_is); (case c21 => k_is); (case k21 => k_is)
    case hb =>
      intro x hx
      simp only [Lw.S, List.mem_cons, List.not_mem_nil, or_false] at hx
      rcases hx with rfl | rfl | rfl | rfl | rfl | rfl | rfl | rfl | rfl | rfl | rfl | rfl | rfl | rfl
      · k_is
      · k_is
      · k_is
      · k_is
      · k_is
      · k_is
      · k_is
      · k_is
      · k_is
      · k_is
      · k_is
      · k_is
      · k_is
      · k_is
    case hg =>
      intro p hp
      simp only [Lw.S, List.mem_cons, List.not_mem_nil, or_false] at hp
      rcases hp with rfl | rfl
      · (refine' DL.GAt.str ?g ?e1; (case g => k_is); (case e1 => decide +kernel))
      · (refine' DL.GAt.tup2s ?g ?h ?e1 ?e2; (case g => k_is); (case h => k_is); (case e1 => decide +kernel); (case e2 => decide +kernel))
