import PyProof.Rows.All
import Wide.All
import OpenK.AllK
import Wide.FinOn
import HandS.ForMost
import HandS.ForExc
import HandS.Flow
import HandS.Dict
import KE.KeyNested
import KE.KDictKeyed
import HandS.Deep
import HandS.Style
import HandS.Conv
import HandS.IsInst
import HandS.Strs
import HandS.TryMany
import HandS.ExcIs
import HandS.ExcInit
import HandS.ExcField
import HandS.SetFor
import KE.SortData
import KE.GoesEnum
import KE.GoesZip
import HandS.Iter
import HandS.Text
import PyProof.WalksMore
import PyProof.SumWalkG
import PyProof.Rows.SumAny
import HandS.TupSets
import HandS.TupMul
import KE.KCallOwn
import HandS.Replace
import KE.KDictDisplayH
import KE.KDictCopyH
import KE.KDictSum
import PySem.Challenge.RW_deadendlanes_k10_whole_roads
section
set_option Elab.async false
set_option linter.all false
set_option maxRecDepth 100000
set_option autoImplicit false
namespace VS
open PySem PySem.Spec PyProof.Rows L2

/-! ### results -/
structure Exc where
  cls : Nat
  arg : Option PyData
inductive R (ε α : Type) where
  | ok (a : α) | ex (e : ε) | bad
def R.bind {ε α β : Type} (x : R ε α) (f : α → R ε β) : R ε β := match x with
  | .ok a => f a
  | .ex e => .ex e
  | .bad => .bad
@[simp] theorem R.bind_ok {ε α β : Type} (a : α) (f : α → R ε β) : (R.ok a : R ε α).bind f = f a := rfl
@[simp] theorem R.bind_ex {ε α β : Type} (e : ε) (f : α → R ε β) : (R.ex e : R ε α).bind f = .ex e := rfl
@[simp] theorem R.bind_bad {ε α β : Type} (f : α → R ε β) : (R.bad : R ε α).bind f = .bad := rfl
abbrev RE := R Exc

/-! ### data in the heap -/
theorem sqt_mono {K : PySem.W.Frag} {H H' : Hp} {a : Addr} {xs : List V} (e : Same H H') (h : SqT K H a xs) : SqT K H' a xs := by
  rcases h with (h | ⟨o, h⟩) | h
  · exact .inl (.inl (e _ _ h))
  · exact .inl (.inr ⟨o, e _ _ h⟩)
  · exact .inr h
/-- a tuple that is known as an object: nobody has given it a dict -/
def SqN (H : Hp) (a : Addr) (xs : List V) : Prop := ∃ o, H a = some (.frz o (.tup xs)) ∧ o.dict = none
theorem SqN.sq {K : PySem.W.Frag} {H : Hp} {a : Addr} {xs : List V} (h : SqN H a xs) : SqT K H a xs := let ⟨o, e, _⟩ := h; .inl (.inr ⟨o, e⟩)
theorem sqn_mono {H H' : Hp} {a : Addr} {xs : List V} (e : Same H H') (h : SqN H a xs) : SqN H' a xs := let ⟨o, q, d⟩ := h; ⟨o, e _ _ q, d⟩
/-- a new tuple -/
def tupN (us : List Value) (xs : List V) : HO := .frz { cls := .type "tuple", data := .seq us.toArray } (.tup xs)
theorem SqN.of {H : Hp} {a : Addr} {us : List Value} {xs : List V} (h : H a = some (tupN us xs)) : SqN H a xs := ⟨_, h, rfl⟩
mutual
inductive Dq (K : PySem.W.Frag) (H : Hp) : V → PyData → Prop
  | non : Dq K H .non .none
  | bl (b : Bool) : Dq K H (.bl b) (.bool b)
  | int (i : Int) : Dq K H (.int i) (.int i)
  | str (x : Str) : Dq K H (.str x) (.str x)
  | lst {a : Addr} {xs : List V} {ds : List PyData} : SqL K H a xs → DqAll K H xs ds → Dq K H (.ref a) (.list ds)
  | tup {a : Addr} {xs : List V} {ds : List PyData} : SqN H a xs → DqAll K H xs ds → Dq K H (.ref a) (.tuple ds)
inductive DqAll (K : PySem.W.Frag) (H : Hp) : List V → List PyData → Prop
  | nil : DqAll K H [] []
  | cons {v : V} {vs : List V} {d : PyData} {ds : List PyData} : Dq K H v d → DqAll K H vs ds → DqAll K H (v :: vs) (d :: ds)
end
mutual
theorem Dq.dp {K : PySem.W.Frag} {H : Hp} : ∀ {v : V} {d : PyData}, Dq K H v d → Dp K H v d
  | _, _, .non => .non
  | _, _, .bl b => .bl b
  | _, _, .int i => .int i
  | _, _, .str x => .str x
  | _, _, .lst h t => .lst h (DqAll.dp t)
  | _, _, .tup h t => .tup h.sq (DqAll.dp t)
theorem DqAll.dp {K : PySem.W.Frag} {H : Hp} : ∀ {vs : List V} {ds : List PyData}, DqAll K H vs ds → DpAll K H vs ds
  | _, _, .nil => .nil
  | _, _, .cons h t => .cons h.dp (DqAll.dp t)
end
mutual
theorem dp_mono {K : PySem.W.Frag} {H H' : Hp} (e : Same H H') : ∀ {v : V} {d : PyData}, Dq K H v d → Dq K H' v d
  | _, _, .non => .non
  | _, _, .bl b => .bl b
  | _, _, .int i => .int i
  | _, _, .str x => .str x
  | _, _, .lst h t => .lst (e.seq h) (dpa_mono e t)
  | _, _, .tup h t => .tup (sqn_mono e h) (dpa_mono e t)
theorem dpa_mono {K : PySem.W.Frag} {H H' : Hp} (e : Same H H') : ∀ {vs : List V} {ds : List PyData}, DqAll K H vs ds → DqAll K H' vs ds
  | _, _, .nil => .nil
  | _, _, .cons h t => .cons (dp_mono e h) (dpa_mono e t)
end
theorem dpa_length {K : PySem.W.Frag} {H : Hp} : ∀ {vs : List V} {ds : List PyData}, DqAll K H vs ds → vs.length = ds.length
  | _, _, .nil => rfl
  | _, _, .cons _ t => by rw [List.length_cons, List.length_cons, dpa_length t]
theorem dpa_get {K : PySem.W.Frag} {H : Hp} : ∀ {vs : List V} {ds : List PyData} {i : Nat} {d : PyData}, DqAll K H vs ds → ds[i]? = some d → ∃ v, vs[i]? = some v ∧ Dq K H v d
  | _, _, _, _, .nil, e => by simp at e
  | _, _, 0, _, .cons h _, e => by simp at e; subst e; exact ⟨_, rfl, h⟩
  | _, _, i + 1, d, .cons _ t, e => by
    obtain ⟨v, h1, h2⟩ := dpa_get (i := i) t (by simpa using e)
    exact ⟨v, by simpa using h1, h2⟩
theorem dpa_get' {K : PySem.W.Frag} {H : Hp} : ∀ {vs : List V} {ds : List PyData} {i : Nat} {v : V}, DqAll K H vs ds → vs[i]? = some v → ∃ d, ds[i]? = some d ∧ Dq K H v d
  | _, _, _, _, .nil, e => by simp at e
  | _, _, 0, _, .cons h _, e => by simp at e; subst e; exact ⟨_, rfl, h⟩
  | _, _, i + 1, d, .cons _ t, e => by
    obtain ⟨v, h1, h2⟩ := dpa_get' (i := i) t (by simpa using e)
    exact ⟨v, by simpa using h1, h2⟩
theorem dpa_append {K : PySem.W.Frag} {H : Hp} : ∀ {vs ws : List V} {ds es : List PyData}, DqAll K H vs ds → DqAll K H ws es → DqAll K H (vs ++ ws) (ds ++ es)
  | _, _, _, _, .nil, h => h
  | _, _, _, _, .cons h t, q => .cons h (dpa_append t q)
theorem dpa_drop {K : PySem.W.Frag} {H : Hp} : ∀ {vs : List V} {ds : List PyData} (n : Nat), DqAll K H vs ds → DqAll K H (vs.drop n) (ds.drop n)
  | _, _, 0, h => h
  | _, _, _ + 1, .nil => .nil
  | _, _, n + 1, .cons _ t => dpa_drop n t
theorem dpa_take {K : PySem.W.Frag} {H : Hp} : ∀ {vs : List V} {ds : List PyData} (n : Nat), DqAll K H vs ds → DqAll K H (vs.take n) (ds.take n)
  | _, _, 0, _ => .nil
  | _, _, _ + 1, .nil => .nil
  | _, _, n + 1, .cons h t => .cons h (dpa_take n t)
theorem dpa_set {K : PySem.W.Frag} {H : Hp} {v : V} {d : PyData} (q : Dq K H v d) : ∀ {vs : List V} {ds : List PyData} (n : Nat), DqAll K H vs ds → DqAll K H (vs.set n v) (ds.set n d)
  | _, _, _, .nil => .nil
  | _, _, 0, .cons _ t => .cons q t
  | _, _, n + 1, .cons h t => .cons h (dpa_set q n t)
theorem dpa_erase {K : PySem.W.Frag} {H : Hp} : ∀ {vs : List V} {ds : List PyData} (n : Nat), DqAll K H vs ds → DqAll K H (vs.eraseIdx n) (ds.eraseIdx n)
  | _, _, _, .nil => .nil
  | _, _, 0, .cons _ t => t
  | _, _, n + 1, .cons h t => .cons h (dpa_erase n t)
theorem dpa_reverse {K : PySem.W.Frag} {H : Hp} : ∀ {vs : List V} {ds : List PyData}, DqAll K H vs ds → DqAll K H vs.reverse ds.reverse
  | _, _, .nil => .nil
  | _, _, .cons h t => by rw [List.reverse_cons, List.reverse_cons]; exact dpa_append (dpa_reverse t) (.cons h .nil)
theorem dpa_rep {K : PySem.W.Frag} {H : Hp} {vs : List V} {ds : List PyData} (h : DqAll K H vs ds) : ∀ k : Nat, DqAll K H (List.replicate k vs).flatten (List.replicate k ds).flatten
  | 0 => .nil
  | k + 1 => by
    rw [List.replicate_succ, List.replicate_succ, List.flatten_cons, List.flatten_cons]
    exact dpa_append h (dpa_rep h k)
theorem dpa_ints {K : PySem.W.Frag} {H : Hp} : ∀ {vs : List V} {ns : List Int}, DqAll K H vs (ns.map .int) → vs = ns.map V.int
  | _, [], h => by cases h; rfl
  | _, n :: ns, h => by
    have h' : DqAll K H _ (.int n :: ns.map .int) := h
    cases h' with
    | cons h1 t => cases h1; rw [dpa_ints t]; rfl
theorem ints_dpa {K : PySem.W.Frag} {H : Hp} : ∀ (ns : List Int), DqAll K H (ns.map V.int) (ns.map .int)
  | [] => .nil
  | n :: ns => .cons (.int n) (ints_dpa ns)
theorem dpa_strs {K : PySem.W.Frag} {H : Hp} : ∀ {vs : List V} {ns : List Str}, DqAll K H vs (ns.map .str) → vs = ns.map V.str
  | _, [], h => by cases h; rfl
  | _, n :: ns, h => by
    have h' : DqAll K H _ (.str n :: ns.map .str) := h
    cases h' with
    | cons h1 t => cases h1; rw [dpa_strs t]; rfl
theorem strs_dpa {K : PySem.W.Frag} {H : Hp} : ∀ (ns : List Str), DqAll K H (ns.map V.str) (ns.map .str)
  | [] => .nil
  | n :: ns => .cons (.str n) (strs_dpa ns)

theorem same_upd {H : Hp} {p : Addr} {o : HO} (h : H p = none) : Same H (upd H p o) := fun b x e => by
  rw [upd_ne (ne_of_none e h)]
  exact e
theorem same_upd_mut {F H : Hp} {p : Addr} {o : HO} (e : Same F H) (h : F p = none) : Same F (upd H p o) := fun b x q => by
  rw [upd_ne (ne_of_none q h)]
  exact e b x q
theorem same_upd2 {F H : Hp} {p : Addr} {o : HO} (e : Same F H) : Same (upd F p o) (upd H p o) := fun b x q => by
  unfold upd at q ⊢
  split at q
  · rename_i hb
    rw [if_pos hb]; exact q
  · rename_i hb
    rw [if_neg hb]; exact e b x q

/-- F: what is never changed; H: all that is tracked -/
structure Fz (F H F2 H2 : Hp) : Prop where
  ff : Same F F2
  hh : Same H H2
  fh : Same F2 H2
  nw : ∀ a o, F2 a = some o → F a = some o ∨ H a = none
theorem Fz.refl {F H : Hp} (e : Same F H) : Fz F H F H := ⟨.refl _, .refl _, e, fun _ _ h => .inl h⟩
theorem Fz.trans {F H F1 H1 F2 H2 : Hp} (x : Fz F H F1 H1) (y : Fz F1 H1 F2 H2) : Fz F H F2 H2 :=
  ⟨x.ff.trans y.ff, x.hh.trans y.hh, y.fh, fun a o h => by
    rcases y.nw a o h with h | h
    · exact x.nw a o h
    · exact .inr (x.hh.free h)⟩
/-- a new frozen object -/
theorem Fz.new {F H : Hp} {p : Addr} {o : HO} (e : Same F H) (h : H p = none) : Fz F H (upd F p o) (upd H p o) :=
  ⟨same_upd (e.free h), same_upd h, same_upd2 e, fun a u q => by
    unfold upd at q
    split at q
    · rename_i hb; subst hb; exact .inr h
    · exact .inl q⟩
/-- a new object of one's own -/
theorem Fz.own {F H : Hp} {p : Addr} {o : HO} (e : Same F H) (h : H p = none) : Fz F H F (upd H p o) :=
  ⟨.refl _, same_upd h, e.trans (same_upd h), fun _ _ q => .inl q⟩
/-- an object that was made since is frozen -/
theorem Fz.freeze {F H F2 H2 : Hp} {p : Addr} {o : HO} (x : Fz F H F2 H2) (h0 : H p = none) (hf : F2 p = none) (h : H2 p = some o) : Fz F H (upd F2 p o) H2 :=
  ⟨x.ff.trans (same_upd hf), x.hh, fun b u q => by
    unfold upd at q
    split at q
    · rename_i hb; subst hb; cases q; exact h
    · exact x.fh b u q, fun a u q => by
    unfold upd at q
    split at q
    · rename_i hb; subst hb; exact .inr h0
    · exact x.nw a u q⟩

/-- data that are frozen, or a list whose items are -/
def DpS (K : PySem.W.Frag) (F H : Hp) (v : V) (d : PyData) : Prop :=
  Dq K F v d ∨ ∃ a vs ds, v = .ref a ∧ d = .list ds ∧ SqL K H a vs ∧ DqAll K F vs ds
theorem DpS.step {K : PySem.W.Frag} {F H F2 H2 : Hp} {v : V} {d : PyData} (x : Fz F H F2 H2) (h : DpS K F H v d) : DpS K F2 H2 v d := by
  rcases h with h | ⟨a, vs, ds, rfl, rfl, h1, h2⟩
  · exact .inl (dp_mono x.ff h)
  · exact .inr ⟨a, vs, ds, rfl, rfl, x.hh.seq h1, dpa_mono x.ff h2⟩
theorem DpS.cur {K : PySem.W.Frag} {F H : Hp} {v : V} {d : PyData} (e : Same F H) (h : DpS K F H v d) : Dq K H v d := by
  rcases h with h | ⟨a, vs, ds, rfl, rfl, h1, h2⟩
  · exact dp_mono e h
  · exact .lst h1 (dpa_mono e h2)
theorem DpS.lst {K : PySem.W.Frag} {F H : Hp} {v : V} {ds : List PyData} (e : Same F H) (h : DpS K F H v (.list ds)) : ∃ a vs, v = .ref a ∧ SqL K H a vs ∧ DqAll K F vs ds := by
  rcases h with h | ⟨a, vs, ds', rfl, q, h1, h2⟩
  · cases h with
    | lst h1 h2 => exact ⟨_, _, rfl, e.seq h1, h2⟩
  · cases q; exact ⟨a, vs, rfl, h1, h2⟩
theorem DpS.tup {K : PySem.W.Frag} {F H : Hp} {v : V} {ds : List PyData} (e : Same F H) (h : DpS K F H v (.tuple ds)) : ∃ a vs, v = .ref a ∧ SqN F a vs ∧ DqAll K F vs ds := by
  rcases h with h | ⟨a, vs, ds', rfl, q, h1, h2⟩
  · cases h with
    | tup h1 h2 => exact ⟨_, _, rfl, h1, h2⟩
  · cases q
theorem DpS.int {K : PySem.W.Frag} {F H : Hp} {v : V} {i : Int} (h : DpS K F H v (.int i)) : v = .int i := by
  rcases h with h | ⟨a, vs, ds', rfl, q, h1, h2⟩
  · cases h; rfl
  · cases q
theorem DpS.str {K : PySem.W.Frag} {F H : Hp} {v : V} {i : Str} (h : DpS K F H v (.str i)) : v = .str i := by
  rcases h with h | ⟨a, vs, ds', rfl, q, h1, h2⟩
  · cases h; rfl
  · cases q
theorem DpS.bl {K : PySem.W.Frag} {F H : Hp} {v : V} {b : Bool} (h : DpS K F H v (.bool b)) : v = .bl b := by
  rcases h with h | ⟨a, vs, ds', rfl, q, h1, h2⟩
  · cases h; rfl
  · cases q
theorem DpS.non {K : PySem.W.Frag} {F H : Hp} {v : V} (h : DpS K F H v .none) : v = .non := by
  rcases h with h | ⟨a, vs, ds', rfl, q, h1, h2⟩
  · cases h; rfl
  · cases q

section
open PySem PySem.Spec PyProof.Rows L2
/-! ### data that can be a key: ints, texts, None, tuples of such -/
mutual
theorem nk_is {P : Program} {w : World} {K : PySem.W.Frag} {H : Hp} {h : Heap} (ok : HOk P w H h) : ∀ (k : NestedKey) {v : V} {u : Value}, Dq K H v k.data → RelV v u → NestedIs h k u
  | .none, _, _, .non, r => by cases r; exact .none
  | .num i, _, _, .int _, r => by obtain ⟨t, rfl⟩ := r; exact .int i t
  | .text x, _, _, .str _, r => by obtain ⟨t, rfl⟩ := r; exact .text x t
  | .tup ks, _, _, .tup (a := a) (xs := xs) hs hd, r => by
    obtain ⟨o, e, _⟩ := hs
    obtain ⟨ho, hz, its, hv, hi⟩ := ok a _ e
    cases r
    obtain ⟨o', g0, g1, n, g2⟩ := hi
    exact .tup g0 g1 g2 (by simpa using nk_all ok ks hd hv)
theorem nk_all {P : Program} {w : World} {K : PySem.W.Frag} {H : Hp} {h : Heap} (ok : HOk P w H h) : ∀ (ks : List NestedKey) {vs : List V} {us : List Value}, DqAll K H vs (NestedKey.datas ks) → Vals vs us → NestedAll h ks us
  | [], _, _, .nil, r => by cases r; exact .nil
  | k :: ks, _, _, .cons h1 h2, r => by
    cases r with
    | cons r1 r2 => exact .cons (nk_is ok k h1 r1) (nk_all ok ks h2 r2)
end
mutual
/-- no text in it: its hash is the same in every world -/
def pureK : NestedKey → Bool
  | .none => true
  | .num _ => true
  | .text _ => false
  | .tup ks => pureKs ks
def pureKs : List NestedKey → Bool
  | [] => true
  | k :: ks => pureK k && pureKs ks
end
mutual
theorem hash_pure (w w' : World) : ∀ k : NestedKey, pureK k = true → k.hash w = k.hash w'
  | .none, _ => rfl
  | .num _, _ => rfl
  | .text _, h => by cases h
  | .tup ks, h => by
    show reduceHash (Builtin.Tuple.tupleHashOf (NestedKey.hashes w ks)) = reduceHash (Builtin.Tuple.tupleHashOf (NestedKey.hashes w' ks))
    rw [hashes_pure w w' ks h]
theorem hashes_pure (w w' : World) : ∀ ks : List NestedKey, pureKs ks = true → NestedKey.hashes w ks = NestedKey.hashes w' ks
  | [], _ => rfl
  | k :: ks, h => by
    obtain ⟨h1, h2⟩ := Bool.and_eq_true_iff.mp h
    show k.hash w :: NestedKey.hashes w ks = k.hash w' :: NestedKey.hashes w' ks
    rw [hash_pure w w' k h1, hashes_pure w w' ks h2]
end
/-! ### a dict whose keys are such data -/
abbrev NKV := List (NestedKey × Addr × V)
def KN (kvs : NKV) (xs : List (NestedKey × Addr × Value)) : Prop := Paired (fun (p : NestedKey × Addr × V) (q : NestedKey × Addr × Value) => p.1 = q.1 ∧ p.2.1 = q.2.1 ∧ RelV p.2.2 q.2.2) kvs xs
def dnO (a : Addr) (kvs : NKV) : HO := .ext fun h => kvs.length ≤ sizeLine ∧ (a == sysModules) = false ∧ ∃ xs, KN kvs xs ∧
  ∃ (w0 : World) (o : Obj) (es : Array DictEntry) (ep : Nat), h.get? a = some o ∧ o.ExactDict ∧ o.data = .dict es ep ∧ es.toList = xs.map (fun x => ⟨x.1.hash w0, .ref x.2.1, x.2.2⟩) ∧ (xs.map (·.1)).Nodup
/-- its keys stand in the heap -/
def KeysIn (K : PySem.W.Frag) (H : Hp) (kvs : NKV) : Prop := ∀ p ∈ kvs, Dq K H (.ref p.2.1) p.1.data ∧ p.1.depth ≤ 8 ∧ pureK p.1 = true
theorem KN.length {kvs : NKV} {xs : List (NestedKey × Addr × Value)} (h : KN kvs xs) : kvs.length = xs.length := Paired.length h
theorem dn_of {P : Program} {w : World} {K : PySem.W.Frag} {H : Hp} {h : Heap} {a : Addr} {kvs : NKV} (ok : HOk P w H h) (e : H a = some (dnO a kvs)) (hk : KeysIn K H kvs) :
    kvs.length ≤ sizeLine ∧ (a == sysModules) = false ∧ ∃ xs, KN kvs xs ∧ h.DictOfH (nestedKind P w) a xs := by
  obtain ⟨z, y, xs, r, w0, o, es, ep, h1, h2, h3, h4, h5⟩ := (show ObjOk P w H h a (dnO a kvs) from ok a _ e).1
  have pur : ∀ {l : NKV} {m : List (NestedKey × Addr × Value)}, KN l m → KeysIn K H l → ∀ x ∈ m, pureK x.1 = true := by
    intro l m q
    induction q with
    | nil => intro _ x hx; exact nomatch hx
    | @cons p q ps qs hq t ih =>
      intro hk x hx
      rcases List.mem_cons.mp hx with e | hx
      · subst e
        rw [← hq.1]
        exact (hk p (by simp)).2.2
      · exact ih (fun z hz => hk z (List.mem_cons_of_mem _ hz)) x hx
  have h4' : es.toList = xs.map (entryOfKey (nestedKind P w)) := by
    rw [h4]
    refine List.map_congr_left fun x hx => ?_
    show (⟨x.1.hash w0, .ref x.2.1, x.2.2⟩ : DictEntry) = ⟨x.1.hash w, .ref x.2.1, x.2.2⟩
    rw [hash_pure w0 w x.1 (pur r hk x hx)]
  refine ⟨z, y, xs, r, o, es, ep, h1, h2, h3, h4', fun x hx => ?_, h5⟩
  have all : ∀ {l : NKV} {m : List (NestedKey × Addr × Value)}, KN l m → KeysIn K H l → ∀ x ∈ m, (nestedKind P w).is h x.1 x.2.1 := by
    intro l m q
    induction q with
    | nil => intro _ x hx; exact nomatch hx
    | @cons p q ps qs hq t ih =>
      intro hk x hx
      rcases List.mem_cons.mp hx with e | hx
      · subst e
        obtain ⟨d, dp, _⟩ := hk p (by simp)
        rw [hq.1] at d dp
        exact ⟨nk_is ok _ d (by rw [hq.2.1]; rfl), dp⟩
      · exact ih (fun z hz => hk z (List.mem_cons_of_mem _ hz)) x hx
  exact all r hk x hx
theorem dn_ok {P : Program} {w : World} {H : Hp} {h : Heap} {a : Addr} {kvs : NKV} {xs : List (NestedKey × Addr × Value)} (z : kvs.length ≤ sizeLine) (hd : (a == sysModules) = false) (r : KN kvs xs) (dd : h.DictOfH (nestedKind P w) a xs) : ObjOk P w H h a (dnO a kvs) := by
  obtain ⟨o, es, ep, h1, h2, h3, h4, _, h5⟩ := dd
  exact ⟨⟨z, hd, xs, r, w, o, es, ep, h1, h2, h3, h4, h5⟩, ⟨o, h1⟩, fun g1 g2 φ k => by
    obtain ⟨z, hd, xs, r, w0, o, es, ep, h1, h2, h3, h4, h5⟩ := φ
    exact ⟨z, hd, xs, r, w0, o, es, ep, k _ h1, h2, h3, h4, h5⟩⟩
def atN (kvs : NKV) (k : NestedKey) : Option V := (kvs.find? fun x => decide (x.1 = k)).map (·.2.2)
theorem KN.val {k : NestedKey} : ∀ {kvs : NKV} {xs : List (NestedKey × Addr × Value)}, KN kvs xs → RelO (atN kvs k) ((atKey xs k).map (·.2))
  | _, _, .nil => True.intro
  | _, _, .cons (a := p) (b := q) hq t => by
    unfold atN atKey
    by_cases h : p.1 = k
    · rw [List.find?_cons_of_pos (by simpa using h), List.find?_cons_of_pos (by simpa using hq.1 ▸ h)]
      exact hq.2.2
    · rw [List.find?_cons_of_neg (by simpa using h), List.find?_cons_of_neg (by simpa using hq.1 ▸ h)]
      exact KN.val t
end
/-! ### slots -/
/-- an object of one's own with parts of one's own: a list of lists; an instance with a list and a number -/
inductive Cp where
  | ol (dss : List (List PyData)) | yd (p : Bool) (st : List PyData) (k : Int) | dn (kvs : List (PyData × PyData))
/-- what is only read: an exception with its line; an instance of the caller's -/
inductive Pr where
  | ox (a dd : Addr) (d : PyData) | sy (st : List PyData) (k : Int)
inductive SV where
  | fr (d : PyData) | sh (ds : List PyData) | ow (ds : List PyData) | ob (a : Addr) | dc (kvs : List (Int × Int)) | cp (t : Cp) | pr (p : Pr)
abbrev Rho := List (Option SV)
def SV.dat : SV → PyData
  | .fr d => d
  | .sh ds => .list ds
  | .ow ds => .list ds
  | .ob _ => .dict []
  | .dc _ => .dict []
  | .cp _ => .dict []
  | .pr _ => .dict []
/-- the class of the text's instances -/
def YC (K : PySem.W.Frag) (C : Addr) : Prop := PySem.W.nsIn K mainGlobals "Yard" = some (some (.ref C))
def yfs (l : Addr) (k : Int) : List (Str × V) := [("steps", .ref l), ("kept", .int k)]
/-- cs: where its own parts stand -/
def CpOk (K : PySem.W.Frag) (F H : Hp) (a : Addr) (cs : List Addr) : Cp → Prop
  | .ol dss => ∃ bs : List Addr, cs = a :: bs ∧ cs.Nodup ∧ H a = some (.lst (bs.map V.ref)) ∧ bs.length = dss.length ∧ ∀ (i : Nat) (b : Addr) (ds : List PyData), bs[i]? = some b → dss[i]? = some ds → ∃ vs, H b = some (.lst vs) ∧ DqAll K F vs ds
  | .yd _ st k => ∃ C dx l vs, YC K C ∧ cs = [l] ∧ H a = some (.ins C dx (yfs l k)) ∧ F a = some (.ins C dx (yfs l k)) ∧ H l = some (.lst vs) ∧ DqAll K F vs st
  | .dn kvs => ∃ nkv : NKV, cs = [a] ∧ H a = some (dnO a nkv) ∧ Paired (fun (p : NestedKey × Addr × V) (q : PyData × PyData) => p.1.data = q.1 ∧ p.1.depth ≤ 8 ∧ pureK p.1 = true ∧ Dq K F (.ref p.2.1) q.1 ∧ Dq K F p.2.2 q.2) nkv kvs
theorem NP_mono {K : PySem.W.Frag} {F F' : Hp} (sf : Same F F') : ∀ {nkv : NKV} {kvs : List (PyData × PyData)}, Paired (fun (p : NestedKey × Addr × V) (q : PyData × PyData) => p.1.data = q.1 ∧ p.1.depth ≤ 8 ∧ pureK p.1 = true ∧ Dq K F (.ref p.2.1) q.1 ∧ Dq K F p.2.2 q.2) nkv kvs → Paired (fun (p : NestedKey × Addr × V) (q : PyData × PyData) => p.1.data = q.1 ∧ p.1.depth ≤ 8 ∧ pureK p.1 = true ∧ Dq K F' (.ref p.2.1) q.1 ∧ Dq K F' p.2.2 q.2) nkv kvs
  | _, _, .nil => .nil
  | _, _, .cons ⟨h1, h2, h3, h4, h5⟩ t => .cons ⟨h1, h2, h3, dp_mono sf h4, dp_mono sf h5⟩ (NP_mono sf t)
theorem dnO_lst {a : Addr} {kvs : NKV} {xs : List V} : dnO a kvs ≠ .lst xs := fun z => by unfold dnO at z; cases z
theorem dnO_ins {a : Addr} {kvs : NKV} {C dx : Addr} {fs : List (Str × V)} : dnO a kvs ≠ .ins C dx fs := fun z => by unfold dnO at z; cases z
/-- the argument that the def was handed: the one instance of F0 -/
def CpAt (F0 : Hp) (a : Addr) : Cp → Prop
  | .yd true _ _ => (∃ C dx fs, F0 a = some (.ins C dx fs)) ∧ ∀ x C dx fs, F0 x = some (.ins C dx fs) → x = a
  | _ => True
def PrOk (K : PySem.W.Frag) (H0 F : Hp) (v : V) : Pr → Prop
  | .ox a dd d => v = .ref a ∧ ∃ u, F dd = some (.xd [("line", u)]) ∧ Dq K F u d
  | .sy st k => ∃ a C dx l vs, v = .ref a ∧ YC K C ∧ H0 a = some (.ins C dx (yfs l k)) ∧ SqL K H0 l vs ∧ DqAll K F vs st
theorem PrOk.mono {K : PySem.W.Frag} {H0 F F' : Hp} {v : V} {p : Pr} (h : PrOk K H0 F v p) (e : Same F F') : PrOk K H0 F' v p := by
  cases p with
  | ox a dd d => obtain ⟨h1, u, h2, h3⟩ := h; exact ⟨h1, u, e _ _ h2, dp_mono e h3⟩
  | sy st k => obtain ⟨a, C, dx, l, vs, h1, h2, h3, h4, h5⟩ := h; exact ⟨a, C, dx, l, vs, h1, h2, h3, h4, dpa_mono e h5⟩
theorem ref_inj : ∀ {bs cs : List Addr}, bs.map V.ref = cs.map V.ref → bs = cs
  | [], [], _ => rfl
  | [], _ :: _, h => by cases h
  | _ :: _, [], h => by cases h
  | b :: bs, c :: cs, h => by
    rw [List.map_cons, List.map_cons, List.cons.injEq] at h
    obtain ⟨h1, h2⟩ := h
    cases h1
    rw [ref_inj h2]
theorem CpOk.mv {K : PySem.W.Frag} {F H F' H' : Hp} {a : Addr} {cs : List Addr} {t : Cp} (h : CpOk K F H a cs t) (ha : H' a = H a) (e : ∀ x ∈ cs, H' x = H x) (sf : Same F F') : CpOk K F' H' a cs t := by
  cases t with
  | ol dss =>
    obtain ⟨bs, rfl, h0, h1, h2, h3⟩ := h
    refine ⟨bs, rfl, h0, ha.trans h1, h2, fun i b ds hb hd => ?_⟩
    obtain ⟨vs, g1, g2⟩ := h3 i b ds hb hd
    exact ⟨vs, (e b (List.mem_cons_of_mem _ (List.mem_of_getElem? hb))).trans g1, dpa_mono sf g2⟩
  | yd p st k =>
    obtain ⟨C, dx, l, vs, hC, rfl, h1, h2, h3, h4⟩ := h
    exact ⟨C, dx, l, vs, hC, rfl, ha.trans h1, sf _ _ h2, (e _ (by simp)).trans h3, dpa_mono sf h4⟩
  | dn kvs =>
    obtain ⟨nkv, rfl, h1, h2⟩ := h
    exact ⟨nkv, rfl, ha.trans h1, NP_mono sf h2⟩
theorem CpOk.uq {K : PySem.W.Frag} {F H F' H' : Hp} {a : Addr} {cs cs' : List Addr} {t t' : Cp} (h : CpOk K F H a cs t) (h' : CpOk K F' H' a cs' t') (e : H' a = H a) : cs' = cs := by
  cases t with
  | ol dss =>
    obtain ⟨bs, rfl, _, h1, _⟩ := h
    cases t' with
    | ol dss' =>
      obtain ⟨bs', rfl, _, h1', _⟩ := h'
      rw [e, h1] at h1'
      have := Option.some.inj h1'
      injection this with this
      rw [ref_inj this]
    | yd C st k =>
      obtain ⟨C, dx, l, vs, _, rfl, h1', _⟩ := h'
      rw [e, h1] at h1'
      cases h1'
    | dn kvs =>
      obtain ⟨nkv, rfl, h1', _⟩ := h'
      rw [e, h1] at h1'
      exact absurd (Option.some.inj h1').symm dnO_lst
  | dn kvs =>
    obtain ⟨nkv, rfl, h1, _⟩ := h
    cases t' with
    | ol dss' =>
      obtain ⟨bs', rfl, _, h1', _⟩ := h'
      rw [e, h1] at h1'
      exact absurd (Option.some.inj h1') dnO_lst
    | yd C st k =>
      obtain ⟨C, dx, l, vs, _, rfl, h1', _⟩ := h'
      rw [e, h1] at h1'
      exact absurd (Option.some.inj h1') dnO_ins
    | dn kvs' =>
      obtain ⟨nkv', rfl, _⟩ := h'
      rfl
  | yd p st k =>
    obtain ⟨C, dx, l, vs, _, rfl, h1, _⟩ := h
    cases t' with
    | ol dss' =>
      obtain ⟨bs', rfl, _, h1', _⟩ := h'
      rw [e, h1] at h1'
      cases h1'
    | yd p' st' k' =>
      obtain ⟨C', dx', l', vs', _, rfl, h1', _⟩ := h'
      rw [e, h1] at h1'
      unfold yfs at h1'
      cases h1'
      rfl
    | dn kvs =>
      obtain ⟨nkv, rfl, h1', _⟩ := h'
      rw [e, h1] at h1'
      exact absurd (Option.some.inj h1').symm dnO_ins
theorem CpOk.ex {K : PySem.W.Frag} {F H : Hp} {a : Addr} {cs : List Addr} {t : Cp} (h : CpOk K F H a cs t) : ∃ o, H a = some o := by
  cases t with
  | ol dss => obtain ⟨bs, rfl, _, h1, _⟩ := h; exact ⟨_, h1⟩
  | yd p st k => obtain ⟨C, dx, l, vs, _, rfl, h1, _⟩ := h; exact ⟨_, h1⟩
  | dn kvs => obtain ⟨nkv, rfl, h1, _⟩ := h; exact ⟨_, h1⟩
/-- what is no instance and no part of it is elsewhere -/
theorem CpOk.ne {K : PySem.W.Frag} {F H : Hp} {a b : Addr} {cs : List Addr} {t : Cp} (h : CpOk K F H a cs t) (hb : b ∉ cs) (hi : ∀ C dx fs, H b ≠ some (.ins C dx fs)) : a ≠ b := by
  cases t with
  | ol dss => obtain ⟨bs, rfl, _⟩ := h; exact fun z => hb (by rw [z]; exact List.mem_cons_self)
  | yd p st k => obtain ⟨C, dx, l, vs, _, rfl, h1, _⟩ := h; exact fun z => hi C dx _ (z ▸ h1)
  | dn kvs => obtain ⟨nkv, rfl, _⟩ := h; exact fun z => hb (by rw [z]; exact List.mem_singleton.mpr rfl)
theorem lst_ni {H : Hp} {b : Addr} {vs : List V} (h : H b = some (.lst vs)) : ∀ C dx fs, H b ≠ some (.ins C dx fs) := fun C dx fs z => by rw [h] at z; cases z
theorem no_ni {H : Hp} {b : Addr} (h : H b = none) : ∀ C dx fs, H b ≠ some (.ins C dx fs) := fun C dx fs z => by rw [h] at z; cases z
theorem CpOk.at {K : PySem.W.Frag} {F H : Hp} {a : Addr} {cs : List Addr} {t : Cp} (h : CpOk K F H a cs t) : ∀ x ∈ cs, ∃ o, H x = some o := by
  cases t with
  | ol dss =>
    obtain ⟨bs, rfl, _, h1, h2, h3⟩ := h
    intro x hx
    rcases List.mem_cons.mp hx with rfl | hx
    · exact ⟨_, h1⟩
    · obtain ⟨i, hi, rfl⟩ := List.getElem_of_mem hx
      obtain ⟨vs, g, _⟩ := h3 i _ (dss[i]'(by omega)) (List.getElem?_eq_getElem hi) (List.getElem?_eq_getElem (by omega))
      exact ⟨_, g⟩
  | yd p st k =>
    obtain ⟨C, dx, l, vs, _, rfl, h1, h2, h3, _⟩ := h
    intro x hx
    rw [List.mem_singleton.mp hx]
    exact ⟨_, h3⟩
  | dn kvs =>
    obtain ⟨nkv, rfl, h1, _⟩ := h
    intro x hx
    rw [List.mem_singleton.mp hx]
    exact ⟨_, h1⟩
theorem CpAt.set {F0 : Hp} {a : Addr} {p : Bool} {st st' : List PyData} {k k' : Int} (h : CpAt F0 a (.yd p st k)) : CpAt F0 a (.yd p st' k') := by cases p <;> exact h
/-- a dict of ints, as it is tracked -/
def dkOf (kvs : List (Int × Int)) : HO := .dK (kvs.map fun p => (.inl p.1, .int p.2))
def SlotOk (K : PySem.W.Frag) (F0 H0 F H : Hp) : SV → Option (Option V) → Prop
  | .fr d, o => ∃ v, o = some (some v) ∧ Dq K F v d
  | .sh ds, o => ∃ a vs, o = some (some (.ref a)) ∧ SqL K H0 a vs ∧ DqAll K F vs ds
  | .ow ds, o => ∃ a vs, o = some (some (.ref a)) ∧ H0 a = none ∧ F a = none ∧ H a = some (.lst vs) ∧ DqAll K F vs ds
  | .ob a, o => o = some (some (.ref a))
  | .dc kvs, o => ∃ a, o = some (some (.ref a)) ∧ H0 a = none ∧ F a = none ∧ H a = some (dkOf kvs)
  | .cp t, o => ∃ a cs, o = some (some (.ref a)) ∧ (∀ x ∈ cs, H0 x = none ∧ F x = none) ∧ CpOk K F H a cs t ∧ CpAt F0 a t
  | .pr p, o => ∃ v, o = some (some v) ∧ PrOk K H0 F v p
/-- parts of different slots are different -/
structure Dj (K : PySem.W.Frag) (F H : Hp) (ρ : Rho) (σ : L2.St) : Prop where
  ow : ∀ (i j : Nat) (t : Cp) (ds : List PyData) (a b : Addr) (cs : List Addr), ρ[i]? = some (some (.cp t)) → ρ[j]? = some (some (.ow ds)) → σ[i]? = some (some (.ref a)) → σ[j]? = some (some (.ref b)) → CpOk K F H a cs t → b ∉ cs
  dc : ∀ (i j : Nat) (t : Cp) (kvs : List (Int × Int)) (a b : Addr) (cs : List Addr), ρ[i]? = some (some (.cp t)) → ρ[j]? = some (some (.dc kvs)) → σ[i]? = some (some (.ref a)) → σ[j]? = some (some (.ref b)) → CpOk K F H a cs t → b ∉ cs
  cp : ∀ (i j : Nat) (t u : Cp) (a b : Addr) (cs es : List Addr), i ≠ j → ρ[i]? = some (some (.cp t)) → ρ[j]? = some (some (.cp u)) → σ[i]? = some (some (.ref a)) → σ[j]? = some (some (.ref b)) → CpOk K F H a cs t → CpOk K F H b es u → ∀ x ∈ cs, x ∉ es
def mutB : SV → Bool
  | .ow _ => true
  | .dc _ => true
  | .cp _ => true
  | _ => false
/-- no new parts -/
theorem Dj.keep {K : PySem.W.Frag} {F H : Hp} {ρ ρ' : Rho} {σ σ' : L2.St} (d : Dj K F H ρ σ) (hc : ∀ (j : Nat) (t : Cp), ρ'[j]? = some (some (.cp t)) → ρ[j]? = some (some (.cp t)) ∧ σ'[j]? = σ[j]?)
    (ho : ∀ (j : Nat) (ds : List PyData), ρ'[j]? = some (some (.ow ds)) → ∃ ds', ρ[j]? = some (some (.ow ds')) ∧ σ'[j]? = σ[j]?) (hd : ∀ (j : Nat) (kvs : List (Int × Int)), ρ'[j]? = some (some (.dc kvs)) → ∃ kvs', ρ[j]? = some (some (.dc kvs')) ∧ σ'[j]? = σ[j]?) : Dj K F H ρ' σ' := by
  refine ⟨fun i j t ds a b cs h1 h2 h3 h4 h5 => ?_, fun i j t ds a b cs h1 h2 h3 h4 h5 => ?_, fun i j t u a b cs es hij h1 h2 h3 h4 h5 h6 => ?_⟩
  · obtain ⟨g1, e1⟩ := hc i _ h1
    obtain ⟨ds', g2, e2⟩ := ho j _ h2
    exact d.ow i j t ds' a b cs g1 g2 (e1 ▸ h3) (e2 ▸ h4) h5
  · obtain ⟨g1, e1⟩ := hc i _ h1
    obtain ⟨ds', g2, e2⟩ := hd j _ h2
    exact d.dc i j t ds' a b cs g1 g2 (e1 ▸ h3) (e2 ▸ h4) h5
  · obtain ⟨g1, e1⟩ := hc i _ h1
    obtain ⟨g2, e2⟩ := hc j _ h2
    exact d.cp i j t u a b cs es hij g1 g2 (e1 ▸ h3) (e2 ▸ h4) h5 h6
/-- another heap in which the parts stand as before -/
theorem Dj.heap {K : PySem.W.Frag} {F H F' H' : Hp} {ρ : Rho} {σ : L2.St} (d : Dj K F H ρ σ) (h : ∀ (i : Nat) (t : Cp) (a : Addr), ρ[i]? = some (some (.cp t)) → σ[i]? = some (some (.ref a)) → ∃ cs, CpOk K F H a cs t ∧ H' a = H a) : Dj K F' H' ρ σ := by
  refine ⟨fun i j t ds a b cs h1 h2 h3 h4 h5 => ?_, fun i j t ds a b cs h1 h2 h3 h4 h5 => ?_, fun i j t u a b cs es hij h1 h2 h3 h4 h5 h6 => ?_⟩
  · obtain ⟨cs', g1, e1⟩ := h i t a h1 h3
    rw [g1.uq h5 e1]
    exact d.ow i j t ds a b cs' h1 h2 h3 h4 g1
  · obtain ⟨cs', g1, e1⟩ := h i t a h1 h3
    rw [g1.uq h5 e1]
    exact d.dc i j t ds a b cs' h1 h2 h3 h4 g1
  · obtain ⟨cs', g1, e1⟩ := h i t a h1 h3
    obtain ⟨es', g2, e2⟩ := h j u b h2 h4
    rw [g1.uq h5 e1, g2.uq h6 e2]
    exact d.cp i j t u a b cs' es' hij h1 h2 h3 h4 g1 g2
structure SRel (K : PySem.W.Frag) (F0 H0 : Hp) (ρ : Rho) (σ : L2.St) (F H : Hp) : Prop where
  fz : Fz F0 H0 F H
  ln : ρ.length = σ.length
  sl : ∀ (i : Nat) (sv : SV), ρ[i]? = some (some sv) → SlotOk K F0 H0 F H sv σ[i]?
  df : ∀ (i j : Nat) (ds es : List PyData), i ≠ j → ρ[i]? = some (some (.ow ds)) → ρ[j]? = some (some (.ow es)) → σ[i]? ≠ σ[j]?
  dj : Dj K F H ρ σ
section
variable {K : PySem.W.Frag} {F0 H0 F H F2 H2 : Hp} {ρ : Rho} {σ : L2.St}
theorem SRel.same (r : SRel K F0 H0 ρ σ F H) : Same F H := r.fz.fh
theorem SlotOk.step {sv : SV} {o : Option (Option V)} (x : Fz F H F2 H2) (h : SlotOk K F0 H0 F H sv o) : SlotOk K F0 H0 F2 H2 sv o := by
  cases sv with
  | fr d => obtain ⟨v, e, h⟩ := h; exact ⟨v, e, dp_mono x.ff h⟩
  | sh ds => obtain ⟨a, vs, e, h1, h2⟩ := h; exact ⟨a, vs, e, h1, dpa_mono x.ff h2⟩
  | ob a => exact h
  | pr p => obtain ⟨v, e, h⟩ := h; exact ⟨v, e, h.mono x.ff⟩
  | dc kvs =>
    obtain ⟨a, e, h1, h2, h3⟩ := h
    refine ⟨a, e, h1, ?_, x.hh _ _ h3⟩
    cases q : F2 a with
    | none => rfl
    | some o =>
      rcases x.nw a o q with z | z
      · rw [h2] at z; cases z
      · rw [h3] at z; cases z
  | cp t =>
    obtain ⟨a, cs, e, h1, h2, h3⟩ := h
    refine ⟨a, cs, e, fun y hy => ⟨(h1 y hy).1, ?_⟩, h2.mv (by obtain ⟨o, ho⟩ := h2.ex; rw [ho]; exact x.hh _ _ ho) (fun y hy => ?_) x.ff, h3⟩
    · obtain ⟨o, ho⟩ := h2.at y hy
      cases q : F2 y with
      | none => rfl
      | some o' =>
        rcases x.nw y o' q with z | z
        · rw [(h1 y hy).2] at z; cases z
        · rw [ho] at z; cases z
    · obtain ⟨o, ho⟩ := h2.at y hy
      rw [ho]; exact x.hh _ _ ho
  | ow ds =>
    obtain ⟨a, vs, e, h1, h2, h3, h4⟩ := h
    refine ⟨a, vs, e, h1, ?_, x.hh _ _ h3, dpa_mono x.ff h4⟩
    cases q : F2 a with
    | none => rfl
    | some o =>
      rcases x.nw a o q with z | z
      · rw [h2] at z; cases z
      · rw [h3] at z; cases z
theorem SRel.step (x : Fz F H F2 H2) (r : SRel K F0 H0 ρ σ F H) : SRel K F0 H0 ρ σ F2 H2 :=
  ⟨r.fz.trans x, r.ln, fun i sv e => (r.sl i sv e).step x, r.df, r.dj.heap fun i t a h1 h2 => by
    obtain ⟨b, cs, e, _, g, _⟩ := r.sl i _ h1
    rw [h2] at e; cases e
    obtain ⟨o, ho⟩ := g.ex
    exact ⟨cs, g, by rw [ho]; exact x.hh _ _ ho⟩⟩
theorem set_some {α : Type} {l : List (Option α)} {i j : Nat} {x : Option α} {y : α} (h : (l.set i x)[j]? = some (some y)) : (i = j ∧ x = some y ∧ i < l.length) ∨ (i ≠ j ∧ l[j]? = some (some y)) := by
  by_cases e : i = j
  · subst e
    by_cases hl : i < l.length
    · rw [List.getElem?_set_self hl] at h; cases h; exact .inl ⟨rfl, rfl, hl⟩
    · rw [List.getElem?_eq_none (by simpa using hl)] at h; cases h
  · rw [List.getElem?_set_ne e] at h; exact .inr ⟨e, h⟩
theorem Dj.set {i : Nat} {x : Option SV} {y : Option V} (d : Dj K F H ρ σ) (hx : ∀ sv, x = some sv → mutB sv = false) : Dj K F H (ρ.set i x) (σ.set i y) :=
  d.keep (fun j t e => by
    rcases set_some e with ⟨rfl, q, _⟩ | ⟨n, q⟩
    · cases hx _ q
    · exact ⟨q, List.getElem?_set_ne n⟩) (fun j t e => by
    rcases set_some e with ⟨rfl, q, _⟩ | ⟨n, q⟩
    · cases hx _ q
    · exact ⟨_, q, List.getElem?_set_ne n⟩) (fun j t e => by
    rcases set_some e with ⟨rfl, q, _⟩ | ⟨n, q⟩
    · cases hx _ q
    · exact ⟨_, q, List.getElem?_set_ne n⟩)
theorem SRel.setF {i : Nat} {v : V} {d : PyData} (r : SRel K F0 H0 ρ σ F H) (h : Dq K F v d) : SRel K F0 H0 (ρ.set i (some (.fr d))) (σ.set i (some v)) F H := by
  refine ⟨r.fz, by rw [List.length_set, List.length_set, r.ln], fun j sv e => ?_, fun j k ds es n e1 e2 => ?_, r.dj.set fun sv e => by cases e <;> rfl⟩
  · rcases set_some e with ⟨rfl, q, hl⟩ | ⟨n, q⟩
    · cases q
      rw [List.getElem?_set_self (by rw [← r.ln]; exact hl)]
      exact ⟨v, rfl, h⟩
    · rw [List.getElem?_set_ne n]; exact r.sl j sv q
  · rcases set_some e1 with ⟨_, q, _⟩ | ⟨n1, q1⟩
    · cases q
    rcases set_some e2 with ⟨_, q, _⟩ | ⟨n2, q2⟩
    · cases q
    rw [List.getElem?_set_ne n1, List.getElem?_set_ne n2]
    exact r.df j k ds es n q1 q2
theorem SRel.setB {i : Nat} {a : Addr} (r : SRel K F0 H0 ρ σ F H) : SRel K F0 H0 (ρ.set i (some (.ob a))) (σ.set i (some (.ref a))) F H := by
  refine ⟨r.fz, by rw [List.length_set, List.length_set, r.ln], fun j sv e => ?_, fun j k ds es n e1 e2 => ?_, r.dj.set fun sv e => by cases e <;> rfl⟩
  · rcases set_some e with ⟨rfl, q, hl⟩ | ⟨n, q⟩
    · cases q
      rw [List.getElem?_set_self (by rw [← r.ln]; exact hl)]
      rfl
    · rw [List.getElem?_set_ne n]; exact r.sl j sv q
  · rcases set_some e1 with ⟨_, q, _⟩ | ⟨n1, q1⟩
    · cases q
    rcases set_some e2 with ⟨_, q, _⟩ | ⟨n2, q2⟩
    · cases q
    rw [List.getElem?_set_ne n1, List.getElem?_set_ne n2]
    exact r.df j k ds es n q1 q2
/-- a thing that is only read -/
theorem SRel.setP {i : Nat} {v : V} {p : Pr} (r : SRel K F0 H0 ρ σ F H) (h : PrOk K H0 F v p) : SRel K F0 H0 (ρ.set i (some (.pr p))) (σ.set i (some v)) F H := by
  refine ⟨r.fz, by rw [List.length_set, List.length_set, r.ln], fun j sv e => ?_, fun j k ds es n e1 e2 => ?_, r.dj.set fun sv e => by cases e <;> rfl⟩
  · rcases set_some e with ⟨rfl, q, hl⟩ | ⟨n, q⟩
    · cases q
      rw [List.getElem?_set_self (by rw [← r.ln]; exact hl)]
      exact ⟨v, rfl, h⟩
    · rw [List.getElem?_set_ne n]; exact r.sl j sv q
  · rcases set_some e1 with ⟨_, q, _⟩ | ⟨n1, q1⟩
    · cases q
    rcases set_some e2 with ⟨_, q, _⟩ | ⟨n2, q2⟩
    · cases q
    rw [List.getElem?_set_ne n1, List.getElem?_set_ne n2]
    exact r.df j k ds es n q1 q2
/-- a slot forgotten -/
theorem SRel.setN {i : Nat} {o : Option V} (r : SRel K F0 H0 ρ σ F H) : SRel K F0 H0 (ρ.set i none) (σ.set i o) F H := by
  refine ⟨r.fz, by rw [List.length_set, List.length_set, r.ln], fun j sv e => ?_, fun j k ds es n e1 e2 => ?_, r.dj.set fun sv e => by cases e <;> rfl⟩
  · rcases set_some e with ⟨rfl, q, hl⟩ | ⟨n, q⟩
    · cases q
    · rw [List.getElem?_set_ne n]; exact r.sl j sv q
  · rcases set_some e1 with ⟨_, q, _⟩ | ⟨n1, q1⟩
    · cases q
    rcases set_some e2 with ⟨_, q, _⟩ | ⟨n2, q2⟩
    · cases q
    rw [List.getElem?_set_ne n1, List.getElem?_set_ne n2]
    exact r.df j k ds es n q1 q2
theorem SRel.setO {i : Nat} {a : Addr} {vs : List V} {ds : List PyData} (r : SRel K F0 H0 ρ σ F H) (h0 : H0 a = none) (hf : F a = none) (hh : H a = some (.lst vs)) (hd : DqAll K F vs ds)
    (hn : ∀ (j : Nat) (es : List PyData), j ≠ i → ρ[j]? = some (some (.ow es)) → σ[j]? ≠ some (some (.ref a)))
    (hq : ∀ (j : Nat) (t : Cp) (b : Addr) (cs : List Addr), ρ[j]? = some (some (.cp t)) → σ[j]? = some (some (.ref b)) → CpOk K F H b cs t → a ∉ cs) : SRel K F0 H0 (ρ.set i (some (.ow ds))) (σ.set i (some (.ref a))) F H := by
  refine ⟨r.fz, by rw [List.length_set, List.length_set, r.ln], fun j sv e => ?_, fun j k es fs n e1 e2 => ?_, ⟨fun j k t es b c cs e1 e2 e3 e4 e5 => ?_, fun j k t es b c cs e1 e2 e3 e4 e5 => ?_, fun j k t u b c cs es n e1 e2 e3 e4 e5 e6 => ?_⟩⟩
  · rcases set_some e with ⟨rfl, q, hl⟩ | ⟨n, q⟩
    · cases q
      rw [List.getElem?_set_self (by rw [← r.ln]; exact hl)]
      exact ⟨a, vs, rfl, h0, hf, hh, hd⟩
    · rw [List.getElem?_set_ne n]; exact r.sl j sv q
  · rcases set_some e1 with ⟨rfl, q, hl⟩ | ⟨n1, q1⟩
    · rcases set_some e2 with ⟨rfl, _, _⟩ | ⟨n2, q2⟩
      · exact absurd rfl n
      rw [List.getElem?_set_self (by rw [← r.ln]; exact hl), List.getElem?_set_ne n2]
      exact fun z => hn k fs (Ne.symm n) q2 z.symm
    rcases set_some e2 with ⟨rfl, q, hl⟩ | ⟨n2, q2⟩
    · rw [List.getElem?_set_self (by rw [← r.ln]; exact hl), List.getElem?_set_ne n1]
      exact hn j es n q1
    rw [List.getElem?_set_ne n1, List.getElem?_set_ne n2]
    exact r.df j k es fs n q1 q2
  · rcases set_some e1 with ⟨_, q, _⟩ | ⟨n1, q1⟩
    · cases q
    rw [List.getElem?_set_ne n1] at e3
    rcases set_some e2 with ⟨rfl, _, hl⟩ | ⟨n2, q2⟩
    · rw [List.getElem?_set_self (by rw [← r.ln]; exact hl)] at e4
      cases e4
      exact hq j t b cs q1 e3 e5
    · rw [List.getElem?_set_ne n2] at e4
      exact r.dj.ow j k t es b c cs q1 q2 e3 e4 e5
  · rcases set_some e1 with ⟨_, q, _⟩ | ⟨n1, q1⟩
    · cases q
    rcases set_some e2 with ⟨_, q, _⟩ | ⟨n2, q2⟩
    · cases q
    rw [List.getElem?_set_ne n1] at e3
    rw [List.getElem?_set_ne n2] at e4
    exact r.dj.dc j k t es b c cs q1 q2 e3 e4 e5
  · rcases set_some e1 with ⟨_, q, _⟩ | ⟨n1, q1⟩
    · cases q
    rcases set_some e2 with ⟨_, q, _⟩ | ⟨n2, q2⟩
    · cases q
    rw [List.getElem?_set_ne n1] at e3
    rw [List.getElem?_set_ne n2] at e4
    exact r.dj.cp j k t u b c cs es n q1 q2 e3 e4 e5 e6
/-- what was not there is no part -/
theorem SRel.newp {F1 H1 : Hp} {a : Addr} (r : SRel K F0 H0 ρ σ F H) (x : Fz F H F1 H1) (hn : H a = none) : ∀ (j : Nat) (t : Cp) (b : Addr) (cs : List Addr), ρ[j]? = some (some (.cp t)) → σ[j]? = some (some (.ref b)) → CpOk K F1 H1 b cs t → a ∉ cs := fun j t b cs h1 h2 h3 hm => by
  obtain ⟨b', cs', e, _, g, _⟩ := r.sl j _ h1
  rw [h2] at e; cases e
  obtain ⟨o, ho⟩ := g.ex
  have := g.uq h3 (by rw [ho]; exact x.hh _ _ ho)
  subst this
  obtain ⟨o', ho'⟩ := g.at a hm
  rw [hn] at ho'; cases ho'
/-- a new list of one's own -/
theorem SRel.setNew {i : Nat} {a : Addr} {vs : List V} {ds : List PyData} {F1 H1 : Hp} (r : SRel K F0 H0 ρ σ F H) (x : Fz F H F1 H1) (hn : H a = none) (hf : F1 a = none) (hh : H1 a = some (.lst vs)) (hd : DqAll K F1 vs ds) :
    SRel K F0 H0 (ρ.set i (some (.ow ds))) (σ.set i (some (.ref a))) F1 H1 :=
  (r.step x).setO (r.fz.hh.free hn) hf hh hd (fun j es _ q z => by
    obtain ⟨b, ws, e, _, _, h3, _⟩ := r.sl j _ q
    rw [e] at z
    cases z
    rw [hn] at h3; cases h3) (r.newp x hn)
/-- one's own list is changed -/
theorem SRel.setM {i : Nat} {a : Addr} {vs ws : List V} {ds es : List PyData} (r : SRel K F0 H0 ρ σ F H) (hs : σ[i]? = some (some (.ref a))) (hi : ρ[i]? = some (some (.ow ds))) (hd : DqAll K F ws es) :
    SRel K F0 H0 (ρ.set i (some (.ow es))) σ F (upd H a (.lst ws)) := by
  obtain ⟨b, us, e, h0, hf, hh, _⟩ := r.sl i _ hi
  rw [hs] at e; cases e
  have fh : Same F (upd H a (.lst ws)) := same_upd_mut r.same hf
  refine ⟨⟨r.fz.ff, same_upd_mut r.fz.hh h0, fh, r.fz.nw⟩, by rw [List.length_set, r.ln], fun j sv e => ?_, fun j k fs gs n e1 e2 => ?_, ?dj⟩
  · rcases set_some e with ⟨rfl, q, hl⟩ | ⟨n, q⟩
    · cases q
      exact ⟨a, ws, hs, h0, hf, upd_same, hd⟩
    · have z := r.sl j sv q
      cases sv with
      | fr d => exact z
      | sh fs => exact z
      | ob a => exact z
      | dc kvs =>
        obtain ⟨c, e', h0', hf', hh'⟩ := z
        have nc : c ≠ a := fun w => by rw [w, hh] at hh'; cases hh'
        exact ⟨c, e', h0', hf', by rw [upd_ne nc]; exact hh'⟩
      | pr p => exact z
      | cp t =>
        obtain ⟨c, cs, e', h1, g, ga⟩ := z
        have na := r.dj.ow j i t ds c a cs q hi e' hs g
        exact ⟨c, cs, e', h1, g.mv (upd_ne (g.ne na (lst_ni hh))) (fun x hx => upd_ne fun w => na (w ▸ hx)) (.refl _), ga⟩
      | ow fs =>
        obtain ⟨c, us', e', h0', hf', hh', hd'⟩ := z
        have nc : c ≠ a := fun w => r.df i j _ _ n hi q (by rw [hs, e', w])
        exact ⟨c, us', e', h0', hf', by rw [upd_ne nc]; exact hh', hd'⟩
  · have o1 : ∃ fs', ρ[j]? = some (some (.ow fs')) := by
      rcases set_some e1 with ⟨rfl, _, _⟩ | ⟨_, q⟩
      · exact ⟨_, hi⟩
      · exact ⟨_, q⟩
    have o2 : ∃ fs', ρ[k]? = some (some (.ow fs')) := by
      rcases set_some e2 with ⟨rfl, _, _⟩ | ⟨_, q⟩
      · exact ⟨_, hi⟩
      · exact ⟨_, q⟩
    obtain ⟨_, o1⟩ := o1
    obtain ⟨_, o2⟩ := o2
    exact r.df j k _ _ n o1 o2
  · refine (r.dj.heap fun j t c h1 h2 => ?_).keep (fun j t e => ?_) (fun j t e => ?_) (fun j t e => ?_)
    · obtain ⟨c', cs, e', _, g, _⟩ := r.sl j _ h1
      rw [h2] at e'; cases e'
      exact ⟨cs, g, upd_ne (g.ne (r.dj.ow j i t ds c a cs h1 hi h2 hs g) (lst_ni hh))⟩
    · rcases set_some e with ⟨_, q, _⟩ | ⟨n, q⟩
      · cases q
      · exact ⟨q, rfl⟩
    · rcases set_some e with ⟨rfl, _, _⟩ | ⟨n, q⟩
      · exact ⟨_, hi, rfl⟩
      · exact ⟨_, q, rfl⟩
    · rcases set_some e with ⟨_, q, _⟩ | ⟨n, q⟩
      · cases q
      · exact ⟨_, q, rfl⟩
/-- one's own list is frozen -/
theorem SRel.setZ {i : Nat} {ds : List PyData} (r : SRel K F0 H0 ρ σ F H) (hi : ρ[i]? = some (some (.ow ds))) :
    ∃ a vs, σ[i]? = some (some (.ref a)) ∧ H a = some (.lst vs) ∧ F a = none ∧ Fz F0 H0 (upd F a (.lst vs)) H ∧ SRel K F0 H0 (ρ.set i (some (.fr (.list ds)))) σ (upd F a (.lst vs)) H ∧ Dq K (upd F a (.lst vs)) (.ref a) (.list ds) := by
  obtain ⟨a, vs, e, h0, hf, hh, hd⟩ := r.sl i _ hi
  have sf : Same F (upd F a (.lst vs)) := same_upd hf
  have fz : Fz F0 H0 (upd F a (.lst vs)) H := r.fz.freeze h0 hf hh
  have dd : Dq K (upd F a (.lst vs)) (.ref a) (.list ds) := .lst (SqL.of upd_same) (dpa_mono sf hd)
  refine ⟨a, vs, e, hh, hf, fz, ⟨fz, by rw [List.length_set, r.ln], fun j sv q => ?_, fun j k fs gs n e1 e2 => ?_, ?_⟩, dd⟩
  · rcases set_some q with ⟨rfl, q, hl⟩ | ⟨n, q⟩
    · cases q
      exact ⟨.ref a, e, dd⟩
    · have z := r.sl j sv q
      cases sv with
      | fr d => obtain ⟨v, e1, e2⟩ := z; exact ⟨v, e1, dp_mono sf e2⟩
      | sh fs => obtain ⟨b, us, e1, e2, e3⟩ := z; exact ⟨b, us, e1, e2, dpa_mono sf e3⟩
      | ob b => exact z
      | dc kvs =>
        obtain ⟨c, e', h0', hf', hh'⟩ := z
        have nc : c ≠ a := fun w => by rw [w, hh] at hh'; cases hh'
        exact ⟨c, e', h0', by rw [upd_ne nc]; exact hf', hh'⟩
      | pr p => obtain ⟨v, e1, e2⟩ := z; exact ⟨v, e1, e2.mono sf⟩
      | cp t =>
        obtain ⟨c, cs, e', h1, g, ga⟩ := z
        exact ⟨c, cs, e', fun x hx => ⟨(h1 x hx).1, by rw [upd_ne (fun (w : x = a) => r.dj.ow j i t ds c a cs q hi e' e g (w ▸ hx))]; exact (h1 x hx).2⟩, g.mv rfl (fun _ _ => rfl) sf, ga⟩
      | ow fs =>
        obtain ⟨c, us', e', h0', hf', hh', hd'⟩ := z
        have nc : c ≠ a := fun w => r.df i j _ _ n hi q (by rw [e, e', w])
        exact ⟨c, us', e', h0', by rw [upd_ne nc]; exact hf', hh', dpa_mono sf hd'⟩
  · rcases set_some e1 with ⟨_, q, _⟩ | ⟨n1, q1⟩
    · cases q
    rcases set_some e2 with ⟨_, q, _⟩ | ⟨n2, q2⟩
    · cases q
    exact r.df j k fs gs n q1 q2
  · refine (r.dj.heap fun j t c h1 h2 => ?_).keep (fun j t e => ?_) (fun j t e => ?_) (fun j t e => ?_)
    · obtain ⟨c', cs, e', _, g, _⟩ := r.sl j _ h1
      rw [h2] at e'; cases e'
      exact ⟨cs, g, rfl⟩
    · rcases set_some e with ⟨_, q, _⟩ | ⟨n, q⟩
      · cases q
      · exact ⟨q, rfl⟩
    · rcases set_some e with ⟨_, q, _⟩ | ⟨n, q⟩
      · cases q
      · exact ⟨_, q, rfl⟩
    · rcases set_some e with ⟨_, q, _⟩ | ⟨n, q⟩
      · cases q
      · exact ⟨_, q, rfl⟩
end

/-! ### what an expression is worth -/
abbrev Kd := PySem.W.Frag → Hp → Hp → Hp → Hp → V → PyData → Prop
def kF : Kd := fun K _ _ F2 _ v d => Dq K F2 v d
def kE : Kd := fun K _ _ F2 H2 v d => DpS K F2 H2 v d
def kN : Kd := fun K _ H F2 H2 v d => ∃ a vs ds, v = .ref a ∧ d = .list ds ∧ H a = none ∧ F2 a = none ∧ H2 a = some (.lst vs) ∧ DqAll K F2 vs ds
def XOk (K : PySem.W.Frag) (xc : Nat → Addr) (F H : Hp) (x : Exc) (cls : Value) (dd : Option Addr) : Prop :=
  cls = .ref (xc x.cls) ∧ match x.arg with
    | none => dd = none
    | some d => ∃ a v, dd = some a ∧ F a = some (.xd [("line", v)]) ∧ Dq K F v d
/-- the reading of an expression that is worth g -/
def eC (K : PySem.W.Frag) (xc : Nat → Addr) (W : WX) (k : Kd) (g : Rho → RE PyData) : TE := fun σ H Q => ∃ F0 H0 ρ F, SRel K F0 H0 ρ σ F H ∧ g ρ ≠ .bad ∧
  (∀ d, g ρ = .ok d → ∀ v F2 H2, Fz F H F2 H2 → k K F H F2 H2 v d → Q v H2) ∧
  (∀ x, g ρ = .ex x → ∀ cls dd F2 H2, Fz F H F2 H2 → XOk K xc F2 H2 x cls dd → W cls dd σ H2)
def tC' (K : PySem.W.Frag) (xc : Nat → Addr) (W : WX) (g : Rho → RE Bool) : TT := fun σ H Q => ∃ F0 H0 ρ F, SRel K F0 H0 ρ σ F H ∧ g ρ ≠ .bad ∧
  (∀ d, g ρ = .ok d → ∀ F2 H2, Fz F H F2 H2 → Q d H2) ∧
  (∀ x, g ρ = .ex x → ∀ cls dd F2 H2, Fz F H F2 H2 → XOk K xc F2 H2 x cls dd → W cls dd σ H2)
def DsS (K : PySem.W.Frag) (F H F2 H2 : Hp) : List Kd → List V → List PyData → Prop
  | [], vs, ds => vs = [] ∧ ds = []
  | k :: ks, vs, ds => ∃ v vs' d ds', vs = v :: vs' ∧ ds = d :: ds' ∧ k K F H F2 H2 v d ∧ DsS K F H F2 H2 ks vs' ds'
def aC (K : PySem.W.Frag) (xc : Nat → Addr) (W : WX) (ks : List Kd) (g : Rho → RE (List PyData)) : TA := fun σ H Q => ∃ F0 H0 ρ F, SRel K F0 H0 ρ σ F H ∧ g ρ ≠ .bad ∧
  (∀ ds, g ρ = .ok ds → ∀ vs F2 H2, Fz F H F2 H2 → DsS K F H F2 H2 ks vs ds → Q vs H2) ∧
  (∀ x, g ρ = .ex x → ∀ cls dd F2 H2, Fz F H F2 H2 → XOk K xc F2 H2 x cls dd → W cls dd σ H2)
abbrev DE (X : Cx) (xc : Nat → Addr) (W : WX) (k : Kd) (e : Expr) (g : Rho → RE PyData) : Prop := PE X e (eC X.K xc W k g)
abbrev DT (X : Cx) (xc : Nat → Addr) (W : WX) (e : Expr) (g : Rho → RE Bool) : Prop := PT X e (tC' X.K xc W g)
abbrev DA (X : Cx) (xc : Nat → Addr) (W : WX) (ks : List Kd) (es : List Expr) (g : Rho → RE (List PyData)) : Prop := PA X es (aC X.K xc W ks g)
theorem PE.imp {X : Cx} {e : Expr} {t t' : TE} (h : PE X e t) (i : ∀ σ H Q, t' σ H Q → t σ H Q) : PE X e t' := ⟨fun pins s σ H Q I q => h.run pins s σ H Q I (i σ H Q q)⟩
theorem PT.imp {X : Cx} {e : Expr} {t t' : TT} (h : PT X e t) (i : ∀ σ H Q, t' σ H Q → t σ H Q) : PT X e t' := ⟨fun pins s σ H Q I q => h.run pins s σ H Q I (i σ H Q q)⟩
theorem PA.imp {X : Cx} {e : List Expr} {t t' : TA} (h : PA X e t) (i : ∀ σ H Q, t' σ H Q → t σ H Q) : PA X e t' := ⟨fun pos pins s σ H Q I q => h.run pos pins s σ H Q I (i σ H Q q)⟩
theorem PSs.imp {X : Cx} {e : List Stmt} {t t' : TS} (h : PSs X e t) (i : ∀ D σ H, t' D σ H → t D σ H) : PSs X e t' := ⟨fun pins s σ H D I q => h.run pins s σ H D I (i D σ H q)⟩
theorem PS.imp {X : Cx} {e : Stmt} {t t' : TS} (h : PS X e t) (i : ∀ D σ H, t' D σ H → t D σ H) : PS X e t' := ⟨fun pins s σ H D I q => h.run pins s σ H D I (i D σ H q)⟩

/-- the first of several steps -/
theorem eC.go {K : PySem.W.Frag} {xc : Nat → Addr} {W : WX} {k : Kd} {g : Rho → RE PyData} {β : Type} {f : PyData → RE β} {F0 H0 F H : Hp} {ρ : Rho} {σ : L2.St} {Q : VK} (r : SRel K F0 H0 ρ σ F H) (hb : (g ρ).bind f ≠ .bad)
    (hx : ∀ x, (g ρ).bind f = .ex x → ∀ cls dd F2 H2, Fz F H F2 H2 → XOk K xc F2 H2 x cls dd → W cls dd σ H2)
    (h : ∀ d, g ρ = .ok d → ∀ v F2 H2, Fz F H F2 H2 → SRel K F0 H0 ρ σ F2 H2 → k K F H F2 H2 v d → f d ≠ .bad → (∀ x, f d = .ex x → ∀ cls dd F3 H3, Fz F2 H2 F3 H3 → XOk K xc F3 H3 x cls dd → W cls dd σ H3) → Q v H2) : eC K xc W k g σ H Q := by
  refine ⟨F0, H0, ρ, F, r, fun z => hb (by rw [z]; rfl), fun d e v F2 H2 x kk => ?_, fun x e cls dd F2 H2 z q => hx x (by rw [e]; rfl) cls dd F2 H2 z q⟩
  rw [e] at hb hx
  exact h d e v F2 H2 x (r.step x) kk hb fun y ey cls dd F3 H3 z q => hx y ey cls dd F3 H3 (x.trans z) q
theorem tC'.go {K : PySem.W.Frag} {xc : Nat → Addr} {W : WX} {g : Rho → RE Bool} {β : Type} {f : Bool → RE β} {F0 H0 F H : Hp} {ρ : Rho} {σ : L2.St} {Q : Bool → Hp → Prop} (r : SRel K F0 H0 ρ σ F H) (hb : (g ρ).bind f ≠ .bad)
    (hx : ∀ x, (g ρ).bind f = .ex x → ∀ cls dd F2 H2, Fz F H F2 H2 → XOk K xc F2 H2 x cls dd → W cls dd σ H2)
    (h : ∀ d, g ρ = .ok d → ∀ F2 H2, Fz F H F2 H2 → SRel K F0 H0 ρ σ F2 H2 → f d ≠ .bad → (∀ x, f d = .ex x → ∀ cls dd F3 H3, Fz F2 H2 F3 H3 → XOk K xc F3 H3 x cls dd → W cls dd σ H3) → Q d H2) : tC' K xc W g σ H Q := by
  refine ⟨F0, H0, ρ, F, r, fun z => hb (by rw [z]; rfl), fun d e F2 H2 x => ?_, fun x e cls dd F2 H2 z q => hx x (by rw [e]; rfl) cls dd F2 H2 z q⟩
  rw [e] at hb hx
  exact h d e F2 H2 x (r.step x) hb fun y ey cls dd F3 H3 z q => hx y ey cls dd F3 H3 (x.trans z) q
theorem aC.go {K : PySem.W.Frag} {xc : Nat → Addr} {W : WX} {ks : List Kd} {g : Rho → RE (List PyData)} {β : Type} {f : List PyData → RE β} {F0 H0 F H : Hp} {ρ : Rho} {σ : L2.St} {Q : List V → Hp → Prop} (r : SRel K F0 H0 ρ σ F H) (hb : (g ρ).bind f ≠ .bad)
    (hx : ∀ x, (g ρ).bind f = .ex x → ∀ cls dd F2 H2, Fz F H F2 H2 → XOk K xc F2 H2 x cls dd → W cls dd σ H2)
    (h : ∀ d, g ρ = .ok d → ∀ v F2 H2, Fz F H F2 H2 → SRel K F0 H0 ρ σ F2 H2 → DsS K F H F2 H2 ks v d → f d ≠ .bad → (∀ x, f d = .ex x → ∀ cls dd F3 H3, Fz F2 H2 F3 H3 → XOk K xc F3 H3 x cls dd → W cls dd σ H3) → Q v H2) : aC K xc W ks g σ H Q := by
  refine ⟨F0, H0, ρ, F, r, fun z => hb (by rw [z]; rfl), fun d e v F2 H2 x kk => ?_, fun x e cls dd F2 H2 z q => hx x (by rw [e]; rfl) cls dd F2 H2 z q⟩
  rw [e] at hb hx
  exact h d e v F2 H2 x (r.step x) kk hb fun y ey cls dd F3 H3 z q => hx y ey cls dd F3 H3 (x.trans z) q
end VS
end
section
set_option Elab.async false
set_option linter.all false
set_option maxRecDepth 100000
set_option autoImplicit false
namespace VS
open PySem PySem.Spec PyProof.Rows L2

def R.of {ε α : Type} : Option α → R ε α
  | some a => .ok a
  | none => .bad
@[simp] theorem R.of_some {ε α : Type} (a : α) : (R.of (some a) : R ε α) = .ok a := rfl
@[simp] theorem R.of_none {ε α : Type} : (R.of (none : Option α) : R ε α) = .bad := rfl
theorem R.of_ok {ε α : Type} {o : Option α} {a : α} (h : (R.of o : R ε α) = .ok a) : o = some a := by
  cases o with
  | none => cases h
  | some b => cases h; rfl
theorem R.of_ne_ex {ε α : Type} {o : Option α} {e : ε} (h : (R.of o : R ε α) = .ex e) : False := by
  cases o <;> cases h
theorem R.of_ne_bad {ε α : Type} {o : Option α} (h : (R.of o : R ε α) ≠ .bad) : ∃ a, o = some a := by
  cases o with
  | none => exact absurd rfl h
  | some b => exact ⟨b, rfl⟩

/-! ### names, constants -/
def dVar (i : Nat) : Rho → RE PyData := fun ρ => match ρ[i]? with
  | some (some (.ob _)) => .bad
  | some (some (.dc _)) => .bad
  | some (some (.cp _)) => .bad
  | some (some (.pr _)) => .bad
  | some (some sv) => .ok sv.dat
  | _ => .bad
def dVarF (i : Nat) : Rho → RE PyData := fun ρ => match ρ[i]? with
  | some (some (.fr d)) => .ok d
  | _ => .bad
def dC (d : PyData) : Rho → RE PyData := fun _ => .ok d
section
variable {X : Cx} {xc : Nat → Addr} {W : WX} {k : Kd} {e a b c : Expr} {g ga gb gc : Rho → RE PyData} {pos : Pos}
theorem de_E (h : DE X xc W kF e g) : DE X xc W kE e g := PE.imp h fun σ H Q ⟨F0, H0, ρ, F, r, hb, hk, hx⟩ => ⟨F0, H0, ρ, F, r, hb, fun d e v F2 H2 x q => hk d e v F2 H2 x (.inl q), hx⟩
theorem de_NE (h : DE X xc W kN e g) : DE X xc W kE e g := PE.imp h fun σ H Q ⟨F0, H0, ρ, F, r, hb, hk, hx⟩ => ⟨F0, H0, ρ, F, r, hb, fun d e v F2 H2 x q => by
  obtain ⟨a, vs, ds, rfl, rfl, h1, h2, h3, h4⟩ := q
  exact hk _ e _ F2 H2 x (.inr ⟨a, vs, ds, rfl, rfl, SqL.of h3, h4⟩), hx⟩
theorem de_NF (h : DE X xc W kN e g) : DE X xc W kF e g := PE.imp h fun σ H Q ⟨F0, H0, ρ, F, r, hb, hk, hx⟩ => ⟨F0, H0, ρ, F, r, hb, fun d e v F2 H2 x q => by
  obtain ⟨a, vs, ds, rfl, rfl, h1, h2, h3, h4⟩ := q
  exact hk _ e _ (upd F2 a (.lst vs)) H2 (x.freeze h1 h2 h3) (.lst (SqL.of upd_same) (dpa_mono (same_upd h2) h4)), hx⟩
theorem de_var {i : Nat} (h : PE X e (tVar i)) : DE X xc W kE e (dVar i) := PE.imp h fun σ H Q ⟨F0, H0, ρ, F, r, hb, hk, hx⟩ => by
  unfold dVar at hb hk
  cases q : ρ[i]? with
  | none => rw [q] at hb; exact absurd rfl hb
  | some o =>
    cases o with
    | none => rw [q] at hb; exact absurd rfl hb
    | some sv =>
      rw [q] at hk hb
      have z := r.sl i sv q
      cases sv with
      | ob a => exact absurd rfl hb
      | dc kvs => exact absurd rfl hb
      | cp t => exact absurd rfl hb
      | pr p => exact absurd rfl hb
      | fr d =>
        obtain ⟨v, e, hd⟩ := z
        exact ⟨v, e, hk _ rfl _ F H (.refl r.same) (.inl hd)⟩
      | sh ds =>
        obtain ⟨a, vs, e, h1, h2⟩ := z
        exact ⟨_, e, hk _ rfl _ F H (.refl r.same) (.inr ⟨a, vs, ds, rfl, rfl, r.fz.hh.seq h1, h2⟩)⟩
      | ow ds =>
        obtain ⟨a, vs, e, h0, h1, h2, h3⟩ := z
        exact ⟨_, e, hk _ rfl _ F H (.refl r.same) (.inr ⟨a, vs, ds, rfl, rfl, SqL.of h2, h3⟩)⟩
theorem de_varF {i : Nat} (h : PE X e (tVar i)) : DE X xc W kF e (dVarF i) := PE.imp h fun σ H Q ⟨F0, H0, ρ, F, r, hb, hk, hx⟩ => by
  unfold dVarF at hb hk
  cases q : ρ[i]? with
  | none => rw [q] at hb; exact absurd rfl hb
  | some o =>
    cases o with
    | none => rw [q] at hb; exact absurd rfl hb
    | some sv =>
      rw [q] at hk hb
      have z := r.sl i sv q
      cases sv with
      | fr d =>
        obtain ⟨v, e, hd⟩ := z
        exact ⟨v, e, hk _ rfl _ F H (.refl r.same) hd⟩
      | sh ds => exact absurd rfl hb
      | ob a => exact absurd rfl hb
      | dc kvs => exact absurd rfl hb
      | cp t => exact absurd rfl hb
      | pr p => exact absurd rfl hb
      | ow ds => exact absurd rfl hb
theorem de_c {v : V} {d : PyData} (h : PE X e (tC v)) (hd : ∀ F, Dq X.K F v d) : DE X xc W kF e (dC d) := PE.imp h fun σ H Q ⟨F0, H0, ρ, F, r, hb, hk, hx⟩ => hk d rfl v F H (.refl r.same) (hd F)
theorem de_int {i : Int} {j : Nat} : DE X xc W kF (.Constant (.int i) j pos) (dC (.int i)) := de_c pe_int fun _ => .int i
theorem de_bl {i : Bool} {j : Nat} : DE X xc W kF (.Constant (.bool i) j pos) (dC (.bool i)) := de_c pe_bl fun _ => .bl i
theorem de_str {i : Str} {j : Nat} : DE X xc W kF (.Constant (.str i) j pos) (dC (.str i)) := de_c pe_str fun _ => .str i
theorem de_non {j : Nat} : DE X xc W kF (.Constant .none j pos) (dC .none) := de_c pe_non fun _ => .non

/-! ### two-place operations -/
def dBin (op : PyData → PyData → Option PyData) (ga gb : Rho → RE PyData) : Rho → RE PyData := fun ρ => (ga ρ).bind fun d => (gb ρ).bind fun e => R.of (op d e)
def OpOk (K : PySem.W.Frag) (r : R2) (k : Kd) (op : PyData → PyData → Option PyData) : Prop :=
  ∀ (F H : Hp) (x y : V) (d e z : PyData) (Q : VK), Same F H → DpS K F H x d → DpS K F H y e → op d e = some z → (∀ v F2 H2, Fz F H F2 H2 → k K F H F2 H2 v z → Q v H2) → r x y H Q
/-- a kind that may be carried back over earlier steps -/
def Kd.Back (k : Kd) : Prop := ∀ K F H F1 H1 F2 H2 v d, Fz F H F1 H1 → k K F1 H1 F2 H2 v d → k K F H F2 H2 v d
theorem kF_back : Kd.Back kF := fun _ _ _ _ _ _ _ _ _ _ h => h
theorem kE_back : Kd.Back kE := fun _ _ _ _ _ _ _ _ _ _ h => h
theorem kN_back : Kd.Back kN := fun _ _ _ _ _ _ _ _ _ x h => by
  obtain ⟨a, vs, ds, h1, h2, h3, h4, h5, h6⟩ := h
  exact ⟨a, vs, ds, h1, h2, x.hh.free h3, h4, h5, h6⟩
theorem bin_imp {K : PySem.W.Frag} {op : PyData → PyData → Option PyData} {r : R2} {σ : L2.St} {H : Hp} {Q : VK} (hk : Kd.Back k) (ho : OpOk K r k op) : eC K xc W k (dBin op ga gb) σ H Q → tOp r (eC K xc W kE ga) (eC K xc W kE gb) σ H Q := fun ⟨F0, H0, ρ, F, r, hb, hq, hx⟩ => by
  refine eC.go r hb hx fun d ed v F1 H1 x1 r1 k1 hb1 hx1 => ?_
  refine eC.go r1 hb1 hx1 fun d2 ed2 v2 F2 H2 x2 r2 k2 hb2 hx2 => ?_
  obtain ⟨z, ez⟩ := R.of_ne_bad hb2
  refine ho F2 H2 v v2 d d2 z Q r2.same (k1.step x2) k2 ez fun w F3 H3 x3 k3 => ?_
  refine hq z ?_ w F3 H3 ((x1.trans x2).trans x3) (hk _ _ _ _ _ _ _ _ _ (x1.trans x2) k3)
  show ((ga ρ).bind fun d => (gb ρ).bind fun e => R.of (op d e)) = _
  rw [ed, R.bind_ok, ed2, R.bind_ok, ez]; rfl
theorem de_bin {op : PyData → PyData → Option PyData} {r : R2} (h : PE X e (tOp r (eC X.K xc W kE ga) (eC X.K xc W kE gb))) (hk : Kd.Back k) (ho : OpOk X.K r k op) : DE X xc W k e (dBin op ga gb) := PE.imp h fun σ H Q => bin_imp hk ho
/-- a comparison as a test -/
def dTest (g : Rho → RE PyData) : Rho → RE Bool := fun ρ => (g ρ).bind fun d => match d with
  | .bool b => .ok b
  | _ => .bad
theorem test_imp {K : PySem.W.Frag} {σ : L2.St} {H : Hp} {Q : Bool → Hp → Prop} : tC' K xc W (dTest g) σ H Q → eC K xc W kF g σ H (fun x H' => ∃ k, x = .bl k ∧ Q k H') := fun ⟨F0, H0, ρ, F, r, hb, hq, hx⟩ => by
  refine eC.go r hb hx fun d ed v F1 H1 x1 r1 k1 hb1 hx1 => ?_
  split at hb1
  · rename_i b
    cases k1
    refine ⟨b, rfl, hq b ?_ F1 H1 x1⟩
    show ((g ρ).bind fun d => match d with | .bool b => R.ok b | _ => R.bad) = _
    rw [ed]; rfl
  · exact absurd rfl hb1
theorem dt_bin {op : PyData → PyData → Option PyData} {r : R2} (h : PT X e (tTest (tOp r (eC X.K xc W kE ga) (eC X.K xc W kE gb)))) (ho : OpOk X.K r kF op) : DT X xc W e (dTest (dBin op ga gb)) := PT.imp h fun σ H Q q => bin_imp kF_back ho (test_imp q)
end

def lim : Nat := 1000000
theorem lim_le : lim ≤ sizeLine := by decide
theorem le_lim {n : Nat} (h : n ≤ lim) : n ≤ sizeLine := Nat.le_trans h lim_le

/-! ### lists and tuples joined, of any kind -/
section
variable {X : Cx}
def rCatL (K : PySem.W.Frag) : R2 := fun x y H Q => ∃ l b xs zs, x = .ref l ∧ y = .ref b ∧ SqL K H l xs ∧ SqL K H b zs ∧ xs.length + zs.length ≤ sizeLine ∧ ∀ p, H p = none → Q (.ref p) (upd H p (.lst (xs ++ zs)))
theorem op_catL : OpR X (binaryOp .Add) (rCatL X.K) := by
  intro pins s σ H x y v u Q I rx ry h
  obtain ⟨l, b, xs, zs, rfl, rfl, hH, hB, hz, q⟩ := h
  cases rx
  cases ry
  obtain ⟨its, r1, ⟨⟨cls, dd, data, sl⟩, n, ho, hc, _, hd⟩, _⟩ := I.list hH
  obtain ⟨its2, r2, ⟨⟨cls2, dd2, data2, sl2⟩, n2, ho2, hc2, _, hd2⟩, _⟩ := I.list hB
  simp only at hc hd hc2 hd2
  subst hc hd hc2 hd2
  have e : its.toArray ++ its2.toArray = (its ++ its2).toArray := by simp
  have hl1 := r1.length
  have hl2 := r2.length
  refine concat_meets ⟨_, ho, rfl⟩ ⟨_, ho2, rfl⟩ noFill_list_add seq_list_add PySem.F.slot_list_add PySem.F.entry_list_add (PySem.F.args_list_add_2 _ _) (list_addW l b its.toArray its2.toArray n n2 dd dd2 sl sl2 (by simp only [List.size_toArray]; omega)) ⟨ho, ho2, ?_⟩
  rw [e]
  exact ⟨.ref _, _, I.lnew (t' := s.toks) (r1.append r2) (by rw [List.length_append]; omega), rfl, q _ I.fresh⟩
def rCatU (K : PySem.W.Frag) : R2 := fun x y H Q => ∃ a b xs ys, x = .ref a ∧ y = .ref b ∧ SqT K H a xs ∧ SqT K H b ys ∧ xs.length + ys.length ≤ sizeLine ∧
  (xs = [] → Q (.ref b) H) ∧ (ys = [] → Q (.ref a) H) ∧ (∀ p us, H p = none → Q (.ref p) (upd H p (tupN us (xs ++ ys))))
theorem op_catU : OpR X (binaryOp .Add) (rCatU X.K) := by
  intro pins s σ H x y v u Q I rx ry h
  obtain ⟨a, b, xs, ys, rfl, rfl, ha, hb, hz, q0, q1, q2⟩ := h
  cases rx
  cases ry
  obtain ⟨its, r1, p1, _⟩ := I.tuple ha
  obtain ⟨its2, r2, p2, _⟩ := I.tuple hb
  by_cases hv : its = []
  · obtain ⟨⟨cls, dd, data, sl⟩, ho, hc, n, hd⟩ := id p1
    obtain ⟨⟨cls2, dd2, data2, sl2⟩, ho2, hc2, n2, hd2⟩ := id p2
    simp only at hc hd hc2 hd2
    subst hc hd hc2 hd2
    exact concat_meets ⟨_, ho, rfl⟩ ⟨_, ho2, rfl⟩ noFill_tuple_add seq_tuple_add PySem.F.slot_tuple_add PySem.F.entry_tuple_add (PySem.F.args_tuple_add_2 _ _)
      (tuple_addW0 a b its.toArray its2.toArray n n2 dd dd2 sl sl2 (by simp [hv])) ⟨ho, ho2, ⟨.ref b, H, I, rfl, q0 (r1.nil_iff.mp hv)⟩⟩
  · refine HT.cat_tup p1 p2 hv (fun z => ⟨.ref a, H, I, rfl, q1 (r2.nil_iff.mp z)⟩) (fun z => ?_) (by rw [← r1.length, ← r2.length]; exact hz)
    refine ⟨.ref s.heap.objs.size, _, I.laid (t' := s.toks) (o := tupN (its ++ its2) (xs ++ ys)) (fun b ob q => Heap.get?_push_of_some _ q) (Nat.le_refl _) ?_, rfl, q2 _ _ (I.hok.fresh (Nat.le_refl _))⟩
    exact ⟨Heap.get?_push_size _ rfl, by rw [List.length_append]; exact hz, _, r1.append r2, IsTup.new _ _⟩
end
def addD : PyData → PyData → Option PyData
  | .int i, .int j => some (.int (i + j))
  | .str x, .str y => if x.length + y.length ≤ lim then some (.str (x ++ y)) else none
  | .list x, .list y => if x.length + y.length ≤ lim then some (.list (x ++ y)) else none
  | .tuple x, .tuple y => if x.length + y.length ≤ lim then some (.tuple (x ++ y)) else none
  | _, _ => none
abbrev rAddAll (K : PySem.W.Frag) : R2 := fun x y H Q => (∃ i j, x = .int i ∧ y = .int j ∧ Q (.int (i + j)) H) ∨ ((∃ i j, x = .str i ∧ y = .str j ∧ i.length + j.length ≤ sizeLine ∧ Q (.str (i ++ j)) H) ∨ (rCatL K x y H Q ∨ rCatU K x y H Q))
theorem op_addAll {X : Cx} : OpR X (binaryOp .Add) (rAddAll X.K) := op_add.or (op_add_str.or (op_catL.or op_catU))
section
variable {K : PySem.W.Frag} {F H : Hp}
theorem addD_ok : OpOk K (rAddAll K) kF addD := by
  intro F H x y d e z Q sm hx hy ho hq
  unfold addD at ho
  split at ho
  · cases ho
    exact .inl ⟨_, _, hx.int, hy.int, hq _ F H (.refl sm) (.int _)⟩
  · split at ho
    · cases ho
      rename_i hl
      exact .inr (.inl ⟨_, _, hx.str, hy.str, le_lim hl, hq _ F H (.refl sm) (.str _)⟩)
    · cases ho
  · split at ho
    · cases ho
      rename_i hl
      obtain ⟨a, vs, rfl, h1, h2⟩ := hx.lst sm
      obtain ⟨b, ws, rfl, h3, h4⟩ := hy.lst sm
      refine .inr (.inr (.inl ⟨a, b, vs, ws, rfl, rfl, h1, h3, by rw [dpa_length h2, dpa_length h4]; exact le_lim hl, fun p hp => hq _ (upd F p (.lst (vs ++ ws))) _ (.new sm hp) ?_⟩))
      exact .lst (SqL.of upd_same) (dpa_mono (same_upd (sm.free hp)) (dpa_append h2 h4))
    · cases ho
  · split at ho
    · cases ho
      rename_i hl
      obtain ⟨a, vs, rfl, h1, h2⟩ := hx.tup sm
      obtain ⟨b, ws, rfl, h3, h4⟩ := hy.tup sm
      refine .inr (.inr (.inr ⟨a, b, vs, ws, rfl, rfl, (sqn_mono sm h1).sq, (sqn_mono sm h3).sq, by rw [dpa_length h2, dpa_length h4]; exact le_lim hl, fun z => ?_, fun z => ?_, fun p us hp => hq _ (upd F p (tupN us (vs ++ ws))) _ (.new sm hp) ?_⟩))
      · subst z
        cases h2
        exact hq _ F H (.refl sm) (.tup h3 h4)
      · subst z
        cases h4
        rw [List.append_nil] at hq
        exact hq _ F H (.refl sm) (.tup h1 h2)
      · exact .tup (SqN.of upd_same) (dpa_mono (same_upd (sm.free hp)) (dpa_append h2 h4))
    · cases ho
  · cases ho
/-- a new list of one's own -/
def addL : PyData → PyData → Option PyData
  | .list x, .list y => if x.length + y.length ≤ lim then some (.list (x ++ y)) else none
  | _, _ => none
theorem addL_ok : OpOk K (rCatL K) kN addL := by
  intro F H x y d e z Q sm hx hy ho hq
  unfold addL at ho
  split at ho
  · split at ho
    · cases ho
      rename_i hl
      obtain ⟨a, vs, rfl, h1, h2⟩ := hx.lst sm
      obtain ⟨b, ws, rfl, h3, h4⟩ := hy.lst sm
      refine ⟨a, b, vs, ws, rfl, rfl, h1, h3, by rw [dpa_length h2, dpa_length h4]; exact le_lim hl, fun p hp => hq _ F _ (.own sm hp) ⟨p, _, _, rfl, rfl, hp, sm.free hp, upd_same, dpa_append h2 h4⟩⟩
    · cases ho
  · cases ho
end
section
variable {X : Cx} {xc : Nat → Addr} {W : WX} {k : Kd} {e a b c : Expr} {g ga gb gc : Rho → RE PyData} {pos : Pos}
theorem de_add (ha : DE X xc W kE a ga) (hb : DE X xc W kE b gb) : DE X xc W kF (.BinOp a .Add b pos) (dBin addD ga gb) := de_bin (pe_op op_addAll ha hb) kF_back addD_ok
theorem de_addL (ha : DE X xc W kE a ga) (hb : DE X xc W kE b gb) : DE X xc W kN (.BinOp a .Add b pos) (dBin addL ga gb) := de_bin (pe_op op_catL ha hb) kN_back addL_ok
end

/-! ### ints -/
def intOp (C : Int → Int → Bool) (f : Int → Int → PyData) : PyData → PyData → Option PyData
  | .int i, .int j => if C i j then some (f i j) else none
  | _, _ => none
theorem intOp_ok {K : PySem.W.Frag} {C : Int → Int → Bool} {C' : Int → Int → Prop} {f : Int → Int → V} {f' : Int → Int → PyData} (hC : ∀ i j, C i j = true → C' i j) (hf : ∀ i j F, Dq K F (f i j) (f' i j)) : OpOk K (rI C' f) kF (intOp C f') := by
  intro F H x y d e z Q sm hx hy ho hq
  unfold intOp at ho
  split at ho
  · split at ho
    · cases ho
      rename_i hc
      exact ⟨_, _, hx.int, hy.int, hC _ _ hc, hq _ F H (.refl sm) (hf _ _ F)⟩
    · cases ho
  · cases ho
def intOp0 (f : Int → Int → PyData) : PyData → PyData → Option PyData
  | .int i, .int j => some (f i j)
  | _, _ => none
theorem intOp0_ok {K : PySem.W.Frag} {f : Int → Int → V} {f' : Int → Int → PyData} (hf : ∀ i j F, Dq K F (f i j) (f' i j)) : OpOk K (rI0 f) kF (intOp0 f') := by
  intro F H x y d e z Q sm hx hy ho hq
  unfold intOp0 at ho
  split at ho
  · cases ho
    exact ⟨_, _, hx.int, hy.int, hq _ F H (.refl sm) (hf _ _ F)⟩
  · cases ho
def subD := intOp0 fun i j => .int (i - j)
def modD := intOp (fun _ j => decide (0 < j)) fun i j => .int (i % j)
def ltD := intOp0 fun i j => .bool (decide (i < j))
def leD := intOp0 fun i j => .bool (decide (i ≤ j))
def gtD := intOp0 fun i j => .bool (decide (j < i))
def geD := intOp0 fun i j => .bool (decide (j ≤ i))
def fdivD := intOp (fun _ j => decide (0 < j ∧ j < 1073741824)) fun i j => .int (i / j)
def mulI := intOp (fun i j => decide ((-(2 ^ 64) < i ∧ i < 2 ^ 64) ∨ (-(2 ^ 64) < j ∧ j < 2 ^ 64))) fun i j => .int (i * j)
section
variable {X : Cx} {xc : Nat → Addr} {W : WX} {k : Kd} {e a b c : Expr} {g ga gb gc : Rho → RE PyData} {pos : Pos}
theorem de_sub (ha : DE X xc W kE a ga) (hb : DE X xc W kE b gb) : DE X xc W kF (.BinOp a .Sub b pos) (dBin subD ga gb) := de_bin (pe_op op_sub ha hb) kF_back (intOp0_ok fun _ _ _ => .int _)
theorem de_mod (ha : DE X xc W kE a ga) (hb : DE X xc W kE b gb) : DE X xc W kF (.BinOp a .Mod b pos) (dBin modD ga gb) := de_bin (pe_op op_mod ha hb) kF_back (intOp_ok (fun _ _ h => of_decide_eq_true h) fun _ _ _ => .int _)
theorem de_fdiv (ha : DE X xc W kE a ga) (hb : DE X xc W kE b gb) : DE X xc W kF (.BinOp a .FloorDiv b pos) (dBin fdivD ga gb) := de_bin (pe_op op_fdiv ha hb) kF_back (intOp_ok (fun i j h => show 0 < j ∧ j < 1073741824 from of_decide_eq_true h) fun _ _ _ => .int _)
theorem de_mul (ha : DE X xc W kE a ga) (hb : DE X xc W kE b gb) : DE X xc W kF (.BinOp a .Mult b pos) (dBin mulI ga gb) := de_bin (pe_op op_mul ha hb) kF_back (intOp_ok (fun i j h => show (-(2 ^ 64) < i ∧ i < 2 ^ 64) ∨ (-(2 ^ 64) < j ∧ j < 2 ^ 64) from of_decide_eq_true h) fun _ _ _ => .int _)
theorem de_lt (ha : DE X xc W kE a ga) (hb : DE X xc W kE b gb) : DE X xc W kF (.Compare a [.Lt] [b] pos) (dBin ltD ga gb) := de_bin (pe_cmpR op_lt ha hb (nomark _)) kF_back (intOp0_ok fun _ _ _ => .bl _)
theorem de_le (ha : DE X xc W kE a ga) (hb : DE X xc W kE b gb) : DE X xc W kF (.Compare a [.LtE] [b] pos) (dBin leD ga gb) := de_bin (pe_cmpR op_le ha hb (nomark _)) kF_back (intOp0_ok fun _ _ _ => .bl _)
theorem de_gt (ha : DE X xc W kE a ga) (hb : DE X xc W kE b gb) : DE X xc W kF (.Compare a [.Gt] [b] pos) (dBin gtD ga gb) := de_bin (pe_cmpR op_gt ha hb (nomark _)) kF_back (intOp0_ok fun _ _ _ => .bl _)
theorem de_ge (ha : DE X xc W kE a ga) (hb : DE X xc W kE b gb) : DE X xc W kF (.Compare a [.GtE] [b] pos) (dBin geD ga gb) := de_bin (pe_cmpR op_ge ha hb (nomark _)) kF_back (intOp0_ok fun _ _ _ => .bl _)

/-! ### one-place -/
def dUn (op : PyData → Option PyData) (ga : Rho → RE PyData) : Rho → RE PyData := fun ρ => (ga ρ).bind fun d => R.of (op d)
def negD : PyData → Option PyData
  | .int i => some (.int (-i))
  | _ => none
theorem de_neg (ha : DE X xc W kE a ga) : DE X xc W kF (.UnaryOp .USub a pos) (dUn negD ga) := PE.imp (pe_un un_neg ha) fun σ H Q ⟨F0, H0, ρ, F, r, hb, hq, hx⟩ => by
  refine eC.go r hb hx fun d ed v F1 H1 x1 r1 k1 hb1 hx1 => ?_
  obtain ⟨z, ez⟩ := R.of_ne_bad hb1
  unfold negD at ez
  split at ez
  · cases ez
    refine ⟨_, k1.int, hq _ ?_ _ F1 H1 x1 (.int _)⟩
    show ((ga ρ).bind fun d => R.of (negD d)) = _
    rw [ed]; rfl
  · cases ez

/-! ### == and != -/
def eqD : PyData → PyData → Option PyData := fun d e => if SeqAt.shaped d = true ∧ SeqAt.shaped e = true then some (.bool (PyData.eqv d e)) else none
def neD : PyData → PyData → Option PyData := fun d e => if SeqAt.shaped d = true ∧ SeqAt.shaped e = true then some (.bool (!PyData.eqv d e)) else none
theorem eqD_ok {K : PySem.W.Frag} : OpOk K (rEqD K) kF eqD := by
  intro F H x y d e z Q sm hx hy ho hq
  unfold eqD at ho
  split at ho
  · rename_i hs
    cases ho
    exact ⟨d, e, (hx.cur sm).dp, (hy.cur sm).dp, hs.1, hs.2, hq _ F H (.refl sm) (.bl _)⟩
  · cases ho
theorem neD_ok {K : PySem.W.Frag} : OpOk K (rNeD K) kF neD := by
  intro F H x y d e z Q sm hx hy ho hq
  unfold neD at ho
  split at ho
  · rename_i hs
    cases ho
    exact ⟨d, e, (hx.cur sm).dp, (hy.cur sm).dp, hs.1, hs.2, hq _ F H (.refl sm) (.bl _)⟩
  · cases ho
theorem de_eq {n : Nat} (hr : Room n X.A) (ha : DE X xc W kE a ga) (hb : DE X xc W kE b gb) : DE X xc W kF (.Compare a [.Eq] [b] pos) (dBin eqD ga gb) := de_bin (pe_cmpR (op_eqD hr.units) ha hb (nomark _)) kF_back eqD_ok
theorem de_ne {n : Nat} (hr : Room n X.A) (ha : DE X xc W kE a ga) (hb : DE X xc W kE b gb) : DE X xc W kF (.Compare a [.NotEq] [b] pos) (dBin neD ga gb) := de_bin (pe_cmpR (op_neD hr.units) ha hb (nomark _)) kF_back neD_ok

/-! ### is None -/
def isNB : PyData → Bool
  | .none => true
  | _ => false
def isND (d : PyData) : Option PyData := some (.bool (isNB d))
def notND (d : PyData) : Option PyData := some (.bool (!isNB d))
theorem isN_of {K : PySem.W.Frag} {F H : Hp} {v : V} {d : PyData} (h : DpS K F H v d) : decide (v = .non) = isNB d := by
  rcases h with h | ⟨a, vs, ds, rfl, rfl, _⟩
  · cases h <;> rfl
  · rfl
theorem de_isN {j : Nat} {p : Pos} (ha : DE X xc W kE a ga) : DE X xc W kF (.Compare a [.Is] [.Constant .none j p] pos) (dUn isND ga) := PE.imp (pe_cmp (pc_isN ha) rfl) fun σ H Q ⟨F0, H0, ρ, F, r, hb, hq, hx⟩ => by
  refine eC.go r hb hx fun d ed v F1 H1 x1 r1 k1 hb1 hx1 => ?_
  show Q (.bl (decide (v = .non))) H1
  rw [isN_of k1]
  refine hq _ ?_ _ F1 H1 x1 (.bl _)
  show ((ga ρ).bind fun d => R.of (isND d)) = _
  rw [ed]; rfl
theorem de_notN {j : Nat} {p : Pos} (ha : DE X xc W kE a ga) : DE X xc W kF (.Compare a [.IsNot] [.Constant .none j p] pos) (dUn notND ga) := PE.imp (pe_cmp (pc_notN ha) rfl) fun σ H Q ⟨F0, H0, ρ, F, r, hb, hq, hx⟩ => by
  refine eC.go r hb hx fun d ed v F1 H1 x1 r1 k1 hb1 hx1 => ?_
  show Q (.bl (!decide (v = .non))) H1
  rw [isN_of k1]
  refine hq _ ?_ _ F1 H1 x1 (.bl _)
  show ((ga ρ).bind fun d => R.of (notND d)) = _
  rw [ed]; rfl

theorem dt_lt (ha : DE X xc W kE a ga) (hb : DE X xc W kE b gb) : DT X xc W (.Compare a [.Lt] [b] pos) (dTest (dBin ltD ga gb)) := dt_bin (pt_cmpR op_lt ha hb (nomark _)) (intOp0_ok fun _ _ _ => .bl _)
theorem dt_le (ha : DE X xc W kE a ga) (hb : DE X xc W kE b gb) : DT X xc W (.Compare a [.LtE] [b] pos) (dTest (dBin leD ga gb)) := dt_bin (pt_cmpR op_le ha hb (nomark _)) (intOp0_ok fun _ _ _ => .bl _)
theorem dt_gt (ha : DE X xc W kE a ga) (hb : DE X xc W kE b gb) : DT X xc W (.Compare a [.Gt] [b] pos) (dTest (dBin gtD ga gb)) := dt_bin (pt_cmpR op_gt ha hb (nomark _)) (intOp0_ok fun _ _ _ => .bl _)
theorem dt_ge (ha : DE X xc W kE a ga) (hb : DE X xc W kE b gb) : DT X xc W (.Compare a [.GtE] [b] pos) (dTest (dBin geD ga gb)) := dt_bin (pt_cmpR op_ge ha hb (nomark _)) (intOp0_ok fun _ _ _ => .bl _)
theorem dt_eq {n : Nat} (hr : Room n X.A) (ha : DE X xc W kE a ga) (hb : DE X xc W kE b gb) : DT X xc W (.Compare a [.Eq] [b] pos) (dTest (dBin eqD ga gb)) := dt_bin (pt_cmpR (op_eqD hr.units) ha hb (nomark _)) eqD_ok
theorem dt_ne {n : Nat} (hr : Room n X.A) (ha : DE X xc W kE a ga) (hb : DE X xc W kE b gb) : DT X xc W (.Compare a [.NotEq] [b] pos) (dTest (dBin neD ga gb)) := dt_bin (pt_cmpR (op_neD hr.units) ha hb (nomark _)) neD_ok
theorem isN_imp {K : PySem.W.Frag} {σ : L2.St} {H : Hp} {Q : VK} : eC K xc W kF (dUn isND ga) σ H Q → tIsN (eC K xc W kE ga) σ H Q := fun ⟨F0, H0, ρ, F, r, hb, hq, hx⟩ => by
  refine eC.go r hb hx fun d ed v F1 H1 x1 r1 k1 hb1 hx1 => ?_
  show Q (.bl (decide (v = .non))) H1
  rw [isN_of k1]
  refine hq _ ?_ _ F1 H1 x1 (.bl _)
  show ((ga ρ).bind fun d => R.of (isND d)) = _
  rw [ed]; rfl
theorem notN_imp {K : PySem.W.Frag} {σ : L2.St} {H : Hp} {Q : VK} : eC K xc W kF (dUn notND ga) σ H Q → tNotN (eC K xc W kE ga) σ H Q := fun ⟨F0, H0, ρ, F, r, hb, hq, hx⟩ => by
  refine eC.go r hb hx fun d ed v F1 H1 x1 r1 k1 hb1 hx1 => ?_
  show Q (.bl (!decide (v = .non))) H1
  rw [isN_of k1]
  refine hq _ ?_ _ F1 H1 x1 (.bl _)
  show ((ga ρ).bind fun d => R.of (notND d)) = _
  rw [ed]; rfl
theorem dt_isN {j : Nat} {p : Pos} (ha : DE X xc W kE a ga) : DT X xc W (.Compare a [.Is] [.Constant .none j p] pos) (dTest (dUn isND ga)) := PT.imp (pt_cmp (pc_isN ha) rfl) fun σ H Q q => isN_imp (test_imp q)
theorem dt_notN {j : Nat} {p : Pos} (ha : DE X xc W kE a ga) : DT X xc W (.Compare a [.IsNot] [.Constant .none j p] pos) (dTest (dUn notND ga)) := PT.imp (pt_cmp (pc_notN ha) rfl) fun σ H Q q => notN_imp (test_imp q)

/-! ### a chain of two comparisons of ints -/
def dChain (o p : PyData → PyData → Option PyData) (ga gb gc : Rho → RE PyData) : Rho → RE PyData := fun ρ => (ga ρ).bind fun x => (gb ρ).bind fun y => (R.of (o x y)).bind fun t => match t with
  | .bool true => (gc ρ).bind fun z => R.of (p y z)
  | .bool false => .ok (.bool false)
  | _ => .bad
theorem chain_imp {K : PySem.W.Frag} {σ : L2.St} {H : Hp} {Q : VK} : eC K xc W kF (dChain leD leD ga gb gc) σ H Q → tChain (rI0 fun i j => .bl (decide (i ≤ j))) (rI0 fun i j => .bl (decide (i ≤ j))) (eC K xc W kE ga) (eC K xc W kE gb) (eC K xc W kE gc) σ H Q := fun ⟨F0, H0, ρ, F, r, hb, hq, hx⟩ => by
  refine eC.go r hb hx fun d ed v F1 H1 x1 r1 k1 hb1 hx1 => ?_
  refine eC.go r1 hb1 hx1 fun d2 ed2 v2 F2 H2 x2 r2 k2 hb2 hx2 => ?_
  cases q : leD d d2 with
  | none => rw [q] at hb2; exact absurd rfl hb2
  | some t =>
    rw [q] at hb2 hx2
    unfold leD intOp0 at q
    split at q
    · cases q
      rename_i i j
      refine ⟨i, j, (k1.step x2).int, k2.int, _, rfl, ?_⟩
      cases ht : decide (i ≤ j) with
      | true =>
        dsimp only at hb2 hx2
        rw [ht] at hb2 hx2
        rw [if_pos rfl]
        refine eC.go (f := fun z => R.of (leD (.int j) z)) r2 hb2 hx2 fun d3 ed3 v3 F3 H3 x3 r3 k3 hb3 hx3 => ?_
        obtain ⟨z, ez⟩ := R.of_ne_bad hb3
        unfold leD intOp0 at ez
        split at ez
        · rename_i i' j' e1
          cases e1
          cases ez
          refine ⟨j, j', k2.int, k3.int, hq _ ?_ _ F3 H3 ((x1.trans x2).trans x3) (.bl _)⟩
          show ((ga ρ).bind fun x => (gb ρ).bind fun y => _) = _
          rw [ed, R.bind_ok, ed2, R.bind_ok]
          show ((R.ok (.bool (decide (i ≤ j))) : RE PyData).bind _) = _
          rw [ht, R.bind_ok]
          show ((gc ρ).bind fun z => R.of (leD (.int j) z)) = _
          rw [ed3]; rfl
        · cases ez
      | false =>
        rw [if_neg Bool.false_ne_true]
        refine hq _ ?_ _ F2 H2 (x1.trans x2) (.bl _)
        show ((ga ρ).bind fun x => (gb ρ).bind fun y => _) = _
        rw [ed, R.bind_ok, ed2, R.bind_ok]
        show ((R.ok (.bool (decide (i ≤ j))) : RE PyData).bind _) = _
        rw [ht]; rfl
    · cases q
theorem de_chainLe (ha : DE X xc W kE a ga) (hb : DE X xc W kE b gb) (hc : DE X xc W kE c gc) (hm : lastMarks [.LtE, .LtE] [b, c] = false := by rfl) : DE X xc W kF (.Compare a [.LtE, .LtE] [b, c] pos) (dChain leD leD ga gb gc) := PE.imp (pe_chain op_le op_le ha hb hc hm) fun σ H Q => chain_imp
theorem dt_chainLe (ha : DE X xc W kE a ga) (hb : DE X xc W kE b gb) (hc : DE X xc W kE c gc) (hm : lastMarks [.LtE, .LtE] [b, c] = false := by rfl) : DT X xc W (.Compare a [.LtE, .LtE] [b, c] pos) (dTest (dChain leD leD ga gb gc)) := PT.imp (pt_chain op_le op_le ha hb hc hm) fun σ H Q q => chain_imp (test_imp q)
end
end VS
end
section
set_option Elab.async false
set_option linter.all false
set_option maxRecDepth 100000
set_option autoImplicit false
namespace VS
open PySem PySem.Spec PyProof.Rows L2

/-! ### truth -/
def truD : PyData → Option Bool
  | .none => some false
  | .bool b => some b
  | .int i => some (i != 0)
  | .str y => if y.length ≤ lim then some ((y.length : Int) != 0) else none
  | .list xs => some (!xs.isEmpty)
  | .tuple xs => some (!xs.isEmpty)
  | .dict _ => none
theorem dpa_empty {K : PySem.W.Frag} {H : Hp} {vs : List V} {ds : List PyData} (h : DqAll K H vs ds) : ds.isEmpty = vs.isEmpty := by cases h <;> rfl
theorem truD_ok {K : PySem.W.Frag} {F H : Hp} {v : V} {d : PyData} {b : Bool} (sm : Same F H) (h : DpS K F H v d) (e : truD d = some b) : TruV K v H b := by
  cases d with
  | none => cases e; rw [h.non]; rfl
  | bool c => cases e; rw [h.bl]; rfl
  | int i => cases e; rw [h.int]; rfl
  | str y =>
    unfold truD at e
    simp only at e
    split at e
    · cases e; rename_i hl; rw [h.str]; exact ⟨le_lim hl, rfl⟩
    · cases e
  | list xs =>
    cases e
    obtain ⟨a, vs, rfl, h1, h2⟩ := h.lst sm
    exact .inl ⟨vs, h1, by rw [dpa_empty h2]⟩
  | tuple xs =>
    cases e
    obtain ⟨a, vs, rfl, h1, h2⟩ := h.tup sm
    exact .inr (.inl ⟨vs, (sqn_mono sm h1).sq, by rw [dpa_empty h2]⟩)
  | dict xs => cases e
def dTru (g : Rho → RE PyData) : Rho → RE Bool := fun ρ => (g ρ).bind fun d => R.of (truD d)
def dAnd (g h : Rho → RE Bool) : Rho → RE Bool := fun ρ => (g ρ).bind fun b => cond b (h ρ) (.ok false)
def dOr (g h : Rho → RE Bool) : Rho → RE Bool := fun ρ => (g ρ).bind fun b => cond b (.ok true) (h ρ)
def dNot (g : Rho → RE Bool) : Rho → RE Bool := fun ρ => (g ρ).bind fun b => .ok (!b)
def dAndV (g h : Rho → RE PyData) : Rho → RE PyData := fun ρ => (g ρ).bind fun d => (R.of (truD d)).bind fun b => cond b (h ρ) (.ok d)
def dOrV (g h : Rho → RE PyData) : Rho → RE PyData := fun ρ => (g ρ).bind fun d => (R.of (truD d)).bind fun b => cond b (.ok d) (h ρ)
def dNotV (g : Rho → RE PyData) : Rho → RE PyData := fun ρ => (g ρ).bind fun d => (R.of (truD d)).bind fun b => .ok (.bool (!b))
def dIf (t : Rho → RE Bool) (g h : Rho → RE PyData) : Rho → RE PyData := fun ρ => (t ρ).bind fun b => cond b (g ρ) (h ρ)
section
variable {X : Cx} {xc : Nat → Addr} {W : WX} {k : Kd} {e a b c : Expr} {rest : List Expr} {g ga gb gc : Rho → RE PyData} {gt gu : Rho → RE Bool} {pos : Pos}
theorem dt_tru (h : DE X xc W kE a g) (he : ∀ whole, isTrue a X.env whole = (do let v ← whole; standAt a.pos; holding [v] (truthy v)) := by intro _; rfl) : DT X xc W a (dTru g) := PT.imp (pt_truth h he) fun σ H Q ⟨F0, H0, ρ, F, r, hb, hq, hx⟩ => by
  refine eC.go r hb hx fun d ed v F1 H1 x1 r1 k1 hb1 hx1 => ?_
  obtain ⟨z, ez⟩ := R.of_ne_bad hb1
  refine ⟨z, truD_ok r1.same k1 ez, hq z ?_ F1 H1 x1⟩
  show ((g ρ).bind fun d => R.of (truD d)) = _
  rw [ed, R.bind_ok, ez]; rfl
theorem dt_not (h : DT X xc W a gt) : DT X xc W (.UnaryOp .Not a pos) (dNot gt) := PT.imp (pt_not h) fun σ H Q ⟨F0, H0, ρ, F, r, hb, hq, hx⟩ => by
  refine tC'.go r hb hx fun d ed F1 H1 x1 r1 hb1 hx1 => hq _ ?_ F1 H1 x1
  show ((gt ρ).bind fun b => .ok (!b)) = _
  rw [ed]; rfl
theorem PW.imp {X : Cx} {e : Expr} {t t' : TT} (h : PW X e t) (i : ∀ σ H Q, t' σ H Q → t σ H Q) : PW X e t' := ⟨fun n pins s σ H Q I q => h.run n pins s σ H Q I (i σ H Q q)⟩
abbrev DW (X : Cx) (xc : Nat → Addr) (W : WX) (e : Expr) (g : Rho → RE Bool) : Prop := PW X e (tC' X.K xc W g)
theorem dw_and1 (h : DT X xc W a gt) : DW X xc W (.BoolOp .And [a] pos) gt := pw_and1 h
theorem dw_or1 (h : DT X xc W a gt) : DW X xc W (.BoolOp .Or [a] pos) gt := pw_or1 h
theorem dw_and (h : DT X xc W a gt) (h2 : DW X xc W (.BoolOp .And (b :: rest) pos) gu) : DW X xc W (.BoolOp .And (a :: b :: rest) pos) (dAnd gt gu) := PW.imp (pw_and h h2) fun σ H Q ⟨F0, H0, ρ, F, r, hb, hq, hx⟩ => by
  refine tC'.go r hb hx fun d ed F1 H1 x1 r1 hb1 hx1 => ?_
  have eq : dAnd gt gu ρ = cond d (gu ρ) (.ok false) := by
    show (gt ρ).bind _ = _
    rw [ed]; rfl
  cases d with
  | true => exact ⟨F0, H0, ρ, F1, r1, hb1, fun d2 e2 F2 H2 x2 => hq d2 (eq.trans e2) F2 H2 (x1.trans x2), hx1⟩
  | false => exact hq false eq F1 H1 x1
theorem dw_or (h : DT X xc W a gt) (h2 : DW X xc W (.BoolOp .Or (b :: rest) pos) gu) : DW X xc W (.BoolOp .Or (a :: b :: rest) pos) (dOr gt gu) := PW.imp (pw_or h h2) fun σ H Q ⟨F0, H0, ρ, F, r, hb, hq, hx⟩ => by
  refine tC'.go r hb hx fun d ed F1 H1 x1 r1 hb1 hx1 => ?_
  have eq : dOr gt gu ρ = cond d (.ok true) (gu ρ) := by
    show (gt ρ).bind _ = _
    rw [ed]; rfl
  cases d with
  | false => exact ⟨F0, H0, ρ, F1, r1, hb1, fun d2 e2 F2 H2 x2 => hq d2 (eq.trans e2) F2 H2 (x1.trans x2), hx1⟩
  | true => exact hq true eq F1 H1 x1
theorem dt_w (h : DW X xc W a gt) : DT X xc W a gt := h.pt
theorem de_one {op : BoolOp} (h : DE X xc W k a g) : DE X xc W k (.BoolOp op [a] pos) g := pe_one h
theorem de_and (h : DE X xc W kF a ga) (h2 : DE X xc W kF (.BoolOp .And (b :: rest) pos) gb) : DE X xc W kF (.BoolOp .And (a :: b :: rest) pos) (dAndV ga gb) := PE.imp (pe_andT h h2) fun σ H Q ⟨F0, H0, ρ, F, r, hb, hq, hx⟩ => by
  refine eC.go r hb hx fun d ed v F1 H1 x1 r1 k1 hb1 hx1 => ?_
  cases q : truD d with
  | none => rw [q] at hb1; exact absurd rfl hb1
  | some t =>
    rw [q] at hb1 hx1
    have eq : dAndV ga gb ρ = cond t (gb ρ) (.ok d) := by
      show (ga ρ).bind _ = _
      rw [ed, R.bind_ok, q]; rfl
    refine ⟨t, truD_ok r1.same (.inl k1) q, ?_⟩
    cases t with
    | true =>
      rw [if_pos rfl]
      exact ⟨F0, H0, ρ, F1, r1, hb1, fun d2 e2 v2 F2 H2 x2 k2 => hq d2 (eq.trans e2) v2 F2 H2 (x1.trans x2) k2, hx1⟩
    | false =>
      rw [if_neg Bool.false_ne_true]
      exact hq d eq v F1 H1 x1 k1
theorem de_or (h : DE X xc W kF a ga) (h2 : DE X xc W kF (.BoolOp .Or (b :: rest) pos) gb) : DE X xc W kF (.BoolOp .Or (a :: b :: rest) pos) (dOrV ga gb) := PE.imp (pe_orT h h2) fun σ H Q ⟨F0, H0, ρ, F, r, hb, hq, hx⟩ => by
  refine eC.go r hb hx fun d ed v F1 H1 x1 r1 k1 hb1 hx1 => ?_
  cases q : truD d with
  | none => rw [q] at hb1; exact absurd rfl hb1
  | some t =>
    rw [q] at hb1 hx1
    have eq : dOrV ga gb ρ = cond t (.ok d) (gb ρ) := by
      show (ga ρ).bind _ = _
      rw [ed, R.bind_ok, q]; rfl
    refine ⟨t, truD_ok r1.same (.inl k1) q, ?_⟩
    cases t with
    | false =>
      rw [if_neg Bool.false_ne_true]
      exact ⟨F0, H0, ρ, F1, r1, hb1, fun d2 e2 v2 F2 H2 x2 k2 => hq d2 (eq.trans e2) v2 F2 H2 (x1.trans x2) k2, hx1⟩
    | true =>
      rw [if_pos rfl]
      exact hq d eq v F1 H1 x1 k1
theorem de_not (h : DE X xc W kE a ga) : DE X xc W kF (.UnaryOp .Not a pos) (dNotV ga) := PE.imp (pe_notT h) fun σ H Q ⟨F0, H0, ρ, F, r, hb, hq, hx⟩ => by
  refine eC.go r hb hx fun d ed v F1 H1 x1 r1 k1 hb1 hx1 => ?_
  cases q : truD d with
  | none => rw [q] at hb1; exact absurd rfl hb1
  | some t =>
    refine ⟨t, truD_ok r1.same k1 q, hq _ ?_ _ F1 H1 x1 (.bl _)⟩
    show (ga ρ).bind _ = _
    rw [ed, R.bind_ok, q]; rfl
theorem de_if (hk : Kd.Back k) (ht : DT X xc W c gt) (ha : DE X xc W k a ga) (h2 : DE X xc W k b gb) : DE X xc W k (.IfExp c a b pos) (dIf gt ga gb) := PE.imp (pe_ifExp ht ha h2) fun σ H Q ⟨F0, H0, ρ, F, r, hb, hq, hx⟩ => by
  refine tC'.go r hb hx fun d ed F1 H1 x1 r1 hb1 hx1 => ?_
  have eq : dIf gt ga gb ρ = cond d (ga ρ) (gb ρ) := by
    show (gt ρ).bind _ = _
    rw [ed]; rfl
  cases d with
  | true =>
    rw [if_pos rfl]
    exact ⟨F0, H0, ρ, F1, r1, hb1, fun d2 e2 v2 F2 H2 x2 k2 => hq d2 (eq.trans e2) v2 F2 H2 (x1.trans x2) (hk _ _ _ _ _ _ _ _ _ x1 k2), hx1⟩
  | false =>
    rw [if_neg Bool.false_ne_true]
    exact ⟨F0, H0, ρ, F1, r1, hb1, fun d2 e2 v2 F2 H2 x2 k2 => hq d2 (eq.trans e2) v2 F2 H2 (x1.trans x2) (hk _ _ _ _ _ _ _ _ _ x1 k2), hx1⟩
end

/-! ### displays -/
def tTupN (t : TA) : TE := fun σ H Q => t σ H fun xs H1 => xs.length ≤ sizeLine ∧ ∀ p us, H1 p = none → Q (.ref p) (upd H1 p (tupN us xs))
theorem pe_tupN {X : Cx} {es : List Expr} {t : TA} {pos : Pos} {x1 : Nat} (h : PA X es t) : PE X (.Tuple es x1 pos) (tTupN t) := by
  refine ⟨fun pins s σ H Q I hq => ?_⟩
  refine wpAny_Tuple_spliced (thn (h.run pos pins s σ H _ I hq) fun us s1 ⟨xs, H1, I1, r, z, q⟩ => ⟨by rw [← r.length]; exact z, ?_⟩)
  have hf : H1 s1.heap.objs.size = none := I1.hok.fresh (Nat.le_refl _)
  refine ⟨.ref s1.heap.objs.size, upd H1 s1.heap.objs.size (tupN us xs), I1.laid (t' := s1.toks) (fun b u e => Heap.get?_push_of_some _ e) (Nat.le_refl _) ?_, rfl, q _ _ hf⟩
  exact ⟨Heap.get?_push_size _ rfl, z, us, r, ⟨_, Heap.get?_push_size _ rfl, rfl, _, rfl⟩⟩
def fC (K : PySem.W.Frag) (xc : Nat → Addr) (W : WX) (n : Nat) (g : Rho → RE (List PyData)) : TA := fun σ H Q => ∃ F0 H0 ρ F, SRel K F0 H0 ρ σ F H ∧ g ρ ≠ .bad ∧
  (∀ ds, g ρ = .ok ds → ∀ vs F2 H2, Fz F H F2 H2 → DqAll K F2 vs ds → vs.length = n → Q vs H2) ∧
  (∀ x, g ρ = .ex x → ∀ cls dd F2 H2, Fz F H F2 H2 → XOk K xc F2 H2 x cls dd → W cls dd σ H2)
abbrev DF (X : Cx) (xc : Nat → Addr) (W : WX) (n : Nat) (es : List Expr) (g : Rho → RE (List PyData)) : Prop := PA X es (fC X.K xc W n g)
def dNil : Rho → RE (List PyData) := fun _ => .ok []
def dCons (g : Rho → RE PyData) (gs : Rho → RE (List PyData)) : Rho → RE (List PyData) := fun ρ => (g ρ).bind fun d => (gs ρ).bind fun ds => .ok (d :: ds)
def dTup (g : Rho → RE (List PyData)) : Rho → RE PyData := fun ρ => (g ρ).bind fun ds => .ok (.tuple ds)
def dLst (g : Rho → RE (List PyData)) : Rho → RE PyData := fun ρ => (g ρ).bind fun ds => .ok (.list ds)
theorem fC.go {K : PySem.W.Frag} {xc : Nat → Addr} {W : WX} {n : Nat} {g : Rho → RE (List PyData)} {β : Type} {f : List PyData → RE β} {F0 H0 F H : Hp} {ρ : Rho} {σ : L2.St} {Q : List V → Hp → Prop} (r : SRel K F0 H0 ρ σ F H) (hb : (g ρ).bind f ≠ .bad)
    (hx : ∀ x, (g ρ).bind f = .ex x → ∀ cls dd F2 H2, Fz F H F2 H2 → XOk K xc F2 H2 x cls dd → W cls dd σ H2)
    (h : ∀ d, g ρ = .ok d → ∀ v F2 H2, Fz F H F2 H2 → SRel K F0 H0 ρ σ F2 H2 → DqAll K F2 v d → v.length = n → f d ≠ .bad → (∀ x, f d = .ex x → ∀ cls dd F3 H3, Fz F2 H2 F3 H3 → XOk K xc F3 H3 x cls dd → W cls dd σ H3) → Q v H2) : fC K xc W n g σ H Q := by
  refine ⟨F0, H0, ρ, F, r, fun z => hb (by rw [z]; rfl), fun d e v F2 H2 x kk kl => ?_, fun x e cls dd F2 H2 z q => hx x (by rw [e]; rfl) cls dd F2 H2 z q⟩
  rw [e] at hb hx
  exact h d e v F2 H2 x (r.step x) kk kl hb fun y ey cls dd F3 H3 z q => hx y ey cls dd F3 H3 (x.trans z) q
section
variable {X : Cx} {xc : Nat → Addr} {W : WX} {k : Kd} {e a b c : Expr} {es : List Expr} {g ga gb gc : Rho → RE PyData} {gs : Rho → RE (List PyData)} {n : Nat} {pos : Pos}
theorem df_nil : DF X xc W 0 [] dNil := PA.imp pa_nil fun σ H Q ⟨F0, H0, ρ, F, r, hb, hq, hx⟩ => hq [] rfl [] F H (.refl r.same) .nil rfl
theorem df_cons (h : DE X xc W kF e g) (hs : DF X xc W n es gs) (hst : starEach (e :: es) X.env = (false, eval e X.env) :: starEach es X.env := by rfl) : DF X xc W (n + 1) (e :: es) (dCons g gs) := PA.imp (pa_cons h hs hst) fun σ H Q ⟨F0, H0, ρ, F, r, hb, hq, hx⟩ => by
  refine eC.go r hb hx fun d ed v F1 H1 x1 r1 k1 hb1 hx1 => ?_
  refine fC.go r1 hb1 hx1 fun d2 ed2 v2 F2 H2 x2 r2 k2 kl hb2 hx2 => ?_
  refine hq (d :: d2) ?_ (v :: v2) F2 H2 (x1.trans x2) (.cons (dp_mono x2.ff k1) k2) (by rw [List.length_cons, kl])
  show ((g ρ).bind fun d => (gs ρ).bind fun ds => .ok (d :: ds)) = _
  rw [ed, R.bind_ok, ed2]; rfl
theorem de_tup {x1 : Nat} (h : DF X xc W n es gs) (hn : n ≤ lim := by decide) : DE X xc W kF (.Tuple es x1 pos) (dTup gs) := PE.imp (pe_tupN h) fun σ H Q ⟨F0, H0, ρ, F, r, hb, hq, hx⟩ => by
  refine fC.go r hb hx fun d ed v F1 H1 x1 r1 k1 kl hb1 hx1 => ⟨by rw [kl]; exact le_lim hn, fun p us hp => ?_⟩
  refine hq (.tuple d) ?_ _ (upd F1 p (tupN us v)) _ (x1.trans (.new r1.same hp)) (.tup (SqN.of upd_same) (dpa_mono (same_upd (r1.same.free hp)) k1))
  show (gs ρ).bind _ = _
  rw [ed]; rfl
theorem de_lst (h : DF X xc W n es gs) (hn : n ≤ lim := by decide) : DE X xc W kN (.List es pos) (dLst gs) := PE.imp (pe_lst h) fun σ H Q ⟨F0, H0, ρ, F, r, hb, hq, hx⟩ => by
  refine fC.go r hb hx fun d ed v F1 H1 x1 r1 k1 kl hb1 hx1 => ⟨by rw [kl]; exact le_lim hn, fun p hp => ?_⟩
  refine hq (.list d) ?_ _ F1 _ (x1.trans (.own r1.same hp)) ⟨p, v, d, rfl, rfl, x1.hh.free hp, r1.same.free hp, upd_same, k1⟩
  show (gs ρ).bind _ = _
  rw [ed]; rfl
end

/-! ### items -/
def idxD : PyData → PyData → Option PyData
  | .list xs, .int i => atI xs i
  | .tuple xs, .int i => atI xs i
  | _, _ => none
theorem dpa_at {K : PySem.W.Frag} {H : Hp} {vs : List V} {ds : List PyData} {i : Int} {d : PyData} (h : DqAll K H vs ds) (e : atI ds i = some d) : ∃ v, atI vs i = some v ∧ Dq K H v d := by
  unfold atI at e ⊢
  rw [dpa_length h]
  cases q : ixN ds.length i with
  | none => rw [q] at e; cases e
  | some j =>
    rw [q] at e
    exact dpa_get h e
theorem idxD_ok {K : PySem.W.Frag} : OpOk K (fun x y H Q => rIxL K x y H Q ∨ rIxT K x y H Q) kF idxD := by
  intro F H x y d e z Q sm hx hy ho hq
  unfold idxD at ho
  split at ho
  · obtain ⟨a, vs, rfl, h1, h2⟩ := hx.lst sm
    obtain ⟨v, ev, hv⟩ := dpa_at h2 ho
    exact .inl ⟨a, vs, _, v, rfl, hy.int, h1, ev, hq v F H (.refl sm) hv⟩
  · obtain ⟨a, vs, rfl, h1, h2⟩ := hx.tup sm
    obtain ⟨v, ev, hv⟩ := dpa_at h2 ho
    exact .inr ⟨a, vs, _, v, rfl, hy.int, (sqn_mono sm h1).sq, ev, hq v F H (.refl sm) hv⟩
  · cases ho
section
variable {X : Cx} {xc : Nat → Addr} {W : WX} {k : Kd} {e a b c : Expr} {es : List Expr} {g ga gb gc : Rho → RE PyData} {gs : Rho → RE (List PyData)} {n : Nat} {pos : Pos}
theorem de_ix (ha : DE X xc W kE a ga) (hb : DE X xc W kE b gb) (hp : PlainIx b := by intro _ _; rfl) : DE X xc W kF (.Subscript a b pos) (dBin idxD ga gb) := de_bin (pe_ix (ix_list.or ix_tup) ha hb hp) kF_back idxD_ok

/-! ### slices -/
def oC (K : PySem.W.Frag) (xc : Nat → Addr) (W : WX) (g : Rho → RE (Option Int)) : TO := fun σ H Q => ∃ F0 H0 ρ F, SRel K F0 H0 ρ σ F H ∧ g ρ ≠ .bad ∧
  (∀ d, g ρ = .ok d → ∀ F2 H2, Fz F H F2 H2 → Q d H2) ∧
  (∀ x, g ρ = .ex x → ∀ cls dd F2 H2, Fz F H F2 H2 → XOk K xc F2 H2 x cls dd → W cls dd σ H2)
abbrev DO (X : Cx) (xc : Nat → Addr) (W : WX) (e : Option Expr) (g : Rho → RE (Option Int)) : Prop := PO X e (oC X.K xc W g)
theorem PO.imp {X : Cx} {e : Option Expr} {t t' : TO} (h : PO X e t) (i : ∀ σ H Q, t' σ H Q → t σ H Q) : PO X e t' := ⟨fun pins s σ H Q I q => h.run pins s σ H Q I (i σ H Q q)⟩
def dNoP : Rho → RE (Option Int) := fun _ => .ok none
def dP (g : Rho → RE PyData) : Rho → RE (Option Int) := fun ρ => (g ρ).bind fun d => match d with
  | .int i => .ok (some i)
  | _ => .bad
theorem do_none : DO X xc W none dNoP := PO.imp po_none fun σ H Q ⟨F0, H0, ρ, F, r, hb, hq, hx⟩ => hq none rfl F H (.refl r.same)
theorem do_some (h : DE X xc W kE e g) : DO X xc W (some e) (dP g) := PO.imp (po_some h) fun σ H Q ⟨F0, H0, ρ, F, r, hb, hq, hx⟩ => by
  refine eC.go r hb hx fun d ed v F1 H1 x1 r1 k1 hb1 hx1 => ?_
  split at hb1
  · rename_i i
    refine ⟨i, k1.int, hq _ ?_ F1 H1 x1⟩
    show ((g ρ).bind _) = _
    rw [ed]; rfl
  · exact absurd rfl hb1
def cutD {α : Type} (xs : List α) (lo hi : Option Int) : List α := (xs.drop (HT.sIx xs.length 0 lo)).take (HT.sIx xs.length xs.length hi - HT.sIx xs.length 0 lo)
theorem dpa_cut {K : PySem.W.Frag} {H : Hp} {vs : List V} {ds : List PyData} (lo hi : Option Int) (h : DqAll K H vs ds) : DqAll K H (cutV vs lo hi) (cutD ds lo hi) := by
  unfold cutV cutD
  rw [dpa_length h]
  exact dpa_take _ (dpa_drop _ h)
end
end VS
end
section
set_option Elab.async false
set_option linter.all false
set_option maxRecDepth 100000
set_option autoImplicit false
namespace VS
open PySem PySem.Spec PyProof.Rows L2
section
variable {prog : Program} {w : World} {A : Around} {E : Value → Shared → Prop} {s : Shared}
/-- the whole of a tuple is that tuple -/
theorem getItem_tuple_whole {t sl : Addr} {items : Array Value} {vl vu : Value} {lo hi : Option Int} {Q : Value → Shared → Prop} (ht : IsTup s.heap t items) (hs : s.heap.IsSliceOf sl vl vu .none) (pl : IsPart vl lo) (pu : IsPart vu hi)
    (hw : HT.sIx items.size 0 lo = 0 ∧ HT.sIx items.size items.size hi = items.size) (h : Q (.ref t) s) : wpAny (model prog w) A (getItem (.ref t) (.ref sl)) Q E s := by
  obtain ⟨os, hos, hcs, hds⟩ := id hs
  have hTs : s.TypeIs (.ref sl) "slice" := ⟨os, hos, hcs⟩
  unfold getItem
  try with_reducible refine wpAny_holding ?_
  first | refine wpAny_bind (wpAny_pure ?_) | skip
  refine wpAny_bind (wpAny_sequenceKey ht.typeIs (by decide) ?_)
  refine wpAny_bind (wpAny_callSpecial?_slot (name := Str.ofString "__getitem__") ht.typeIs PyProof.Rows.slot_tuple_getitem
    (wpAny_call_entry PyProof.Rows.slot_tuple_getitem ht.typeIs entry_tuple_getitem ?_ (args_tuple_getitem _ _)))
  show wpAny _ _ (Builtin.Tuple.tupleItemsOf (.ref t) >>= _) _ _ s
  refine wpAny_bind (tupleItemsOf_ ht ?_)
  refine wpAny_bind (wpAny_typeOf hTs ?_)
  rw [if_pos (by decide)]
  refine wpAny_bind (HT.sliceApplied_gen hs pl pu ?_)
  show wpAny _ _ (if (((HT.sIx items.size 0 lo : Nat) : Int) == 0 && (1 : Int) == 1 && (HT.sIx items.size items.size hi - HT.sIx items.size 0 lo) == items.size) = true then _ else _) _ _ s
  rw [if_pos (by rw [hw.1, hw.2]; simp)]
  unfold Builtin.Tuple.tupleIsExact
  refine wpAny_bind (wpAny_bind (wpAny_typeOf ht.typeIs (wpAny_pure ?_)))
  rw [if_pos (by decide)]
  exact wpAny_bind (wpAny_rule (wpAny_pure ⟨_, rfl, wpAny_pure h⟩))
theorem slice_rev (n : Nat) : Builtin.Slice.sliceAdjust none none (-1) (n : Int) = ((n : Int) - 1, -1) := by
  unfold Builtin.Slice.sliceAdjust
  simp
theorem places_rev (n : Nat) : Builtin.Slice.slicePlaces ((n : Int) - 1) (-1) (-1) = n := by
  unfold Builtin.Slice.slicePlaces
  simp
  omega
theorem fm_congr {α β : Type} {f g : α → Option β} : ∀ {l : List α}, (∀ x ∈ l, f x = g x) → l.filterMap f = l.filterMap g
  | [], _ => rfl
  | x :: l, h => by
    rw [List.filterMap_cons, List.filterMap_cons, h x List.mem_cons_self, fm_congr fun y hy => h y (List.mem_cons_of_mem _ hy)]
theorem pick_rev (xs : Array Value) : (List.range xs.size).filterMap (fun (k : Nat) => xs[(((xs.size : Nat) : Int) - 1 + (k : Int) * (-1)).toNat]?) = xs.toList.reverse := by
  apply List.ext_getElem?
  intro i
  have e : (List.range xs.size).filterMap (fun (k : Nat) => xs[(((xs.size : Nat) : Int) - 1 + (k : Int) * (-1)).toNat]?) = (List.range xs.size).map (fun k => xs.getD (xs.size - 1 - k) .none) := by
    rw [← List.filterMap_eq_map]
    refine fm_congr fun k hk => ?_
    have hk' : k < xs.size := List.mem_range.mp hk
    have e1 : (((xs.size : Nat) : Int) - 1 + (k : Int) * (-1)).toNat = xs.size - 1 - k := by omega
    rw [e1]
    have h2 : xs.size - 1 - k < xs.size := by omega
    simp [Array.getD, h2]
  rw [e, List.getElem?_map]
  by_cases hi : i < xs.size
  · rw [List.getElem?_range hi, List.getElem?_reverse (by simpa using hi)]
    have h2 : xs.size - 1 - i < xs.size := by omega
    simp [Array.getD, h2]
  · rw [List.getElem?_eq_none (by simpa using hi), List.getElem?_eq_none (by simpa using hi)]
    rfl
theorem getItem_tuple_rev {t sl : Addr} {items : Array Value} {vl vu vs : Value} {Q : Value → Shared → Prop} (ht : IsTup s.heap t items) (hs : s.heap.IsSliceOf sl vl vu vs) (pl : IsPart vl none) (pu : IsPart vu none) (ps : IsPart vs (some (-1)))
    (h : Q (.ref s.heap.objs.size) { s with heap := s.heap.push { cls := .type "tuple", data := .seq items.toList.reverse.toArray } })
    (hsz : items.size ≤ sizeLine) : wpAny (model prog w) A (getItem (.ref t) (.ref sl)) Q E s := by
  have htake : sizeOk (.seq items.toList.reverse.toArray) := by
    show items.toList.reverse.toArray.size ≤ sizeLine
    simpa using hsz
  obtain ⟨os, hos, hcs, hds⟩ := id hs
  have hTs : s.TypeIs (.ref sl) "slice" := ⟨os, hos, hcs⟩
  unfold getItem
  try with_reducible refine wpAny_holding ?_
  first | refine wpAny_bind (wpAny_pure ?_) | skip
  refine wpAny_bind (wpAny_sequenceKey ht.typeIs (by decide) ?_)
  refine wpAny_bind (wpAny_callSpecial?_slot (name := Str.ofString "__getitem__") ht.typeIs PyProof.Rows.slot_tuple_getitem
    (wpAny_call_entry PyProof.Rows.slot_tuple_getitem ht.typeIs entry_tuple_getitem ?_ (args_tuple_getitem _ _)))
  show wpAny _ _ (Builtin.Tuple.tupleItemsOf (.ref t) >>= _) _ _ s
  refine wpAny_bind (tupleItemsOf_ ht ?_)
  refine wpAny_bind (wpAny_typeOf hTs ?_)
  rw [if_pos (by decide)]
  have app : ∀ {Q' : Int × Int × Nat → Shared → Prop} {A' : Around} {E' : Value → Shared → Prop}, Q' (((items.size : Nat) : Int) - 1, -1, items.size) s → wpAny (model prog w) A' (Builtin.Slice.sliceApplied (.ref sl) (pure (items.size : Int))) Q' E' s := fun {Q' A' E'} q => by
    unfold Builtin.Slice.sliceApplied Builtin.Slice.sliceFields
    refine wpAny_bind (wpAny_bind (wpAny_field hos hds (x := vl) rfl (wpAny_bind (wpAny_field hos hds (x := vu) rfl (wpAny_bind (wpAny_field hos hds (x := vs) rfl (wpAny_pure ?_)))))))
    refine wpAny_bind (HT.slicePart_ ps ?_)
    show wpAny _ _ (if ((-1 : Int) == 0) = true then _ else _) _ _ s
    rw [if_neg (by decide)]
    refine wpAny_bind (HT.slicePart_ pl (wpAny_bind (HT.slicePart_ pu (wpAny_bind (wpAny_pure ?_)))))
    show wpAny _ _ (match Builtin.Slice.sliceAdjust none none (-1) (items.size : Int) with | (lo, hi) => pure (lo, (-1 : Int), Builtin.Slice.slicePlaces lo hi (-1))) _ _ s
    rw [slice_rev]
    show wpAny _ _ (pure (((items.size : Nat) : Int) - 1, (-1 : Int), Builtin.Slice.slicePlaces (((items.size : Nat) : Int) - 1) (-1) (-1))) _ _ s
    rw [places_rev]
    exact wpAny_pure q
  refine wpAny_bind (app ?_)
  show wpAny _ _ (if ((((items.size : Nat) : Int) - 1) == 0 && (-1 : Int) == 1 && items.size == items.size) = true then _ else _) _ _ s
  rw [if_neg (by simp), pick_rev]
  first
    | exact wpAny_bind (m := Builtin.Tuple.tupleExact _) (wpAny_newObj_type (wpAny_pure ⟨_, rfl, wpAny_pure h⟩) htake)
    | exact wpAny_bind (m := Builtin.Tuple.tupleExact _) (wpAny_newObj_type (wpAny_bind (wpAny_pure (wpAny_pure ⟨_, rfl, wpAny_pure h⟩))) htake)
    | exact wpAny_bind (wpAny_bind (m := Builtin.Tuple.tupleExact _) (wpAny_newObj_type (wpAny_pure (wpAny_pure ⟨_, rfl, wpAny_pure h⟩)) htake))
    | exact wpAny_bind (wpAny_bind (m := Builtin.Tuple.tupleExact _) (wpAny_newObj_type (wpAny_pure ⟨_, rfl, wpAny_pure h⟩) htake))
end
section
variable {X : Cx}
def rSlU (K : PySem.W.Frag) : V → Option Int → Option Int → Hp → VK → Prop := fun x lo hi H Q => ∃ a xs, x = .ref a ∧ SqT K H a xs ∧
  ((HT.sIx xs.length 0 lo = 0 ∧ HT.sIx xs.length xs.length hi = xs.length) → Q (.ref a) H) ∧ ∀ p us, H p = none → Q (.ref p) (upd H p (tupN us (cutV xs lo hi)))
theorem sl_tupU : SlR X (rSlU X.K) := by
  intro pins s σ H x v vl vu lo hi sl Q I rx hs pl pu h
  obtain ⟨a, xs, rfl, hx, hw, q⟩ := h
  by_cases hwh : HT.sIx xs.length 0 lo = 0 ∧ HT.sIx xs.length xs.length hi = xs.length
  · cases rx
    obtain ⟨its, r, ht, hz⟩ := I.tuple hx
    have hlen : its.toArray.size = xs.length := by rw [List.size_toArray]; exact r.length.symm
    refine ⟨"tuple", _, PyProof.Rows.slot_tuple_getitem.lookup, ht.typeIs, ?_⟩
    exact getItem_tuple_whole ht hs pl pu (by rw [hlen]; exact hwh) ⟨.ref a, H, I, rfl, hw hwh⟩
  · cases rx
    obtain ⟨its, r, ht, hz⟩ := I.tuple hx
    have hlen : its.toArray.size = xs.length := by rw [List.size_toArray]; exact r.length.symm
    refine ⟨"tuple", _, PyProof.Rows.slot_tuple_getitem.lookup, ht.typeIs, ?_⟩
    refine HT.getItem_tuple_cut ht hs pl pu (by rw [hlen]; exact hwh) ?_ (by rw [hlen]; exact hz)
    rw [hlen]
    refine ⟨.ref s.heap.objs.size, _, I.laid (t' := s.toks) (o := tupN ((its.drop (HT.sIx xs.length 0 lo)).take (HT.sIx xs.length xs.length hi - HT.sIx xs.length 0 lo)) (cutV xs lo hi)) (fun b ob q => Heap.get?_push_of_some _ q) (Nat.le_refl _) ?_, rfl, q _ _ (I.hok.fresh (Nat.le_refl _))⟩
    exact ⟨Heap.get?_push_size _ rfl, Nat.le_trans (cutV_length xs lo hi) hz, _, (r.drop (HT.sIx xs.length 0 lo)).take (HT.sIx xs.length xs.length hi - HT.sIx xs.length 0 lo), IsTup.new _ _⟩
def tRevT (K : PySem.W.Frag) (te : TE) : TE := fun σ H Q => te σ H fun x H1 => ∃ a xs, x = .ref a ∧ SqT K H1 a xs ∧ ∀ p us, H1 p = none → Q (.ref p) (upd H1 p (tupN us xs.reverse))
theorem pe_revT {e : Expr} {te : TE} {k : Nat} {p1 p2 p3 pos : Pos} (he : PE X e te) : PE X (.Subscript e (.Slice none none (some (.UnaryOp .USub (.Constant (.int 1) k p1) p2)) p3) pos) (tRevT X.K te) := by
  refine ⟨fun pins s σ H Q I h => ?_⟩
  refine Subscript_ (thn (he.run pins s σ H _ I h) fun v s1 ⟨x, H1, I1, r1, q1⟩ => ?_)
  obtain ⟨a, xs, ex, hx, q⟩ := q1
  subst ex
  cases r1
  have hst : PO X (some (.UnaryOp .USub (.Constant (.int 1) k p1) p2)) (tPart (tUn (rU fun i => .int (-i)) (tC (.int 1)))) := po_some (pe_un un_neg pe_int)
  refine wpAny_Slice (thn (po_none.run pins s1 σ H1 (fun o H2 => o = none ∧ H2 = H1) I1 ⟨rfl, rfl⟩) fun vl s2 ⟨l, H2, I2, pl, el, e2⟩ => ?_)
  subst el e2
  refine thn (po_none.run pins s2 σ H2 (fun o H3 => o = none ∧ H3 = H2) I2 ⟨rfl, rfl⟩) fun vu s3 ⟨u, H3, I3, pu, eu, e3⟩ => ?_
  subst eu e3
  refine thn (hst.run pins s3 σ H3 (fun o H4 => o = some (-1) ∧ H4 = H3) I3 ⟨1, rfl, -1, rfl, rfl, rfl⟩) fun vs s4 ⟨o, H4, I4, ps, eo, e4⟩ => ?_
  subst eo e4
  have I5 : Inv X pins σ H4 { s4 with heap := s4.heap.push { cls := .type "slice", data := .fields #[vl, vu, vs] } } := I4.kept (t' := s4.toks) fun b ob q => Heap.get?_push_of_some _ q
  obtain ⟨its, r, ht, hz⟩ := I5.tuple hx
  have hlen := r.length
  show wpAny (model X.prog X.w) X.A (subscriptTail e (.Slice none none (some (.UnaryOp .USub (.Constant (.int 1) k p1) p2)) p3) (.ref a) (.ref s4.heap.objs.size)) (EP X pins σ Q) X.xe { s4 with heap := s4.heap.push { cls := .type "slice", data := .fields #[vl, vu, vs] } }
  refine tail_any (ops := [.ref a, .ref s4.heap.objs.size]) ht.typeIs (PyProof.Rows.slot_tuple_getitem.lookup) ?_ (by with_unfolding_all rfl)
  refine getItem_tuple_rev ht (Heap.IsSliceOf.new _ vl vu vs) pl pu ps ?_ (by rw [List.size_toArray]; omega)
  refine ⟨.ref _, _, I5.laid (t' := s4.toks) (o := tupN its.reverse xs.reverse) (fun b ob q => Heap.get?_push_of_some _ q) (Nat.le_refl _) ?_, rfl, q _ _ (I5.hok.fresh (Nat.le_refl _))⟩
  exact ⟨Heap.get?_push_size _ rfl, by rw [List.length_reverse]; exact hz, _, r.reverse, IsTup.new _ _⟩
end
end VS
end
section
set_option Elab.async false
set_option linter.all false
set_option maxRecDepth 100000
set_option autoImplicit false
namespace VS
open PySem PySem.Spec PyProof.Rows L2

/-! ### slices -/
theorem oC.go {K : PySem.W.Frag} {xc : Nat → Addr} {W : WX} {g : Rho → RE (Option Int)} {β : Type} {f : Option Int → RE β} {F0 H0 F H : Hp} {ρ : Rho} {σ : L2.St} {Q : Option Int → Hp → Prop} (r : SRel K F0 H0 ρ σ F H) (hb : (g ρ).bind f ≠ .bad)
    (hx : ∀ x, (g ρ).bind f = .ex x → ∀ cls dd F2 H2, Fz F H F2 H2 → XOk K xc F2 H2 x cls dd → W cls dd σ H2)
    (h : ∀ d, g ρ = .ok d → ∀ F2 H2, Fz F H F2 H2 → SRel K F0 H0 ρ σ F2 H2 → f d ≠ .bad → (∀ x, f d = .ex x → ∀ cls dd F3 H3, Fz F2 H2 F3 H3 → XOk K xc F3 H3 x cls dd → W cls dd σ H3) → Q d H2) : oC K xc W g σ H Q := by
  refine ⟨F0, H0, ρ, F, r, fun z => hb (by rw [z]; rfl), fun d e F2 H2 x => ?_, fun x e cls dd F2 H2 z q => hx x (by rw [e]; rfl) cls dd F2 H2 z q⟩
  rw [e] at hb hx
  exact h d e F2 H2 x (r.step x) hb fun y ey cls dd F3 H3 z q => hx y ey cls dd F3 H3 (x.trans z) q
def dSl (f : PyData → Option Int → Option Int → Option PyData) (g : Rho → RE PyData) (gl gh : Rho → RE (Option Int)) : Rho → RE PyData := fun ρ => (g ρ).bind fun d => (gl ρ).bind fun l => (gh ρ).bind fun u => R.of (f d l u)
def sliceD : PyData → Option Int → Option Int → Option PyData
  | .list xs, lo, hi => some (.list (cutD xs lo hi))
  | .tuple xs, lo, hi => some (.tuple (cutD xs lo hi))
  | .str z, lo, hi => if z.length ≤ lim then some (.str (cutS z lo hi)) else none
  | _, _, _ => none
def sliceL : PyData → Option Int → Option Int → Option PyData
  | .list xs, lo, hi => some (.list (cutD xs lo hi))
  | _, _, _ => none
abbrev rSlAll (K : PySem.W.Frag) : V → Option Int → Option Int → Hp → VK → Prop := fun x lo hi H Q => rSlL K x lo hi H Q ∨ (rSlU K x lo hi H Q ∨ rSlS x lo hi H Q)
def SlOk (K : PySem.W.Frag) (r : V → Option Int → Option Int → Hp → VK → Prop) (k : Kd) (f : PyData → Option Int → Option Int → Option PyData) : Prop :=
  ∀ (F H : Hp) (x : V) (d z : PyData) (lo hi : Option Int) (Q : VK), Same F H → DpS K F H x d → f d lo hi = some z → (∀ v F2 H2, Fz F H F2 H2 → k K F H F2 H2 v z → Q v H2) → r x lo hi H Q
theorem cutD_all {α : Type} {xs : List α} {lo hi : Option Int} (h : HT.sIx xs.length 0 lo = 0 ∧ HT.sIx xs.length xs.length hi = xs.length) : cutD xs lo hi = xs := by
  unfold cutD
  rw [h.1, h.2]
  simp
theorem sliceD_ok {K : PySem.W.Frag} : SlOk K (rSlAll K) kF sliceD := by
  intro F H x d z lo hi Q sm hx ho hq
  unfold sliceD at ho
  split at ho
  · cases ho
    obtain ⟨a, vs, rfl, h1, h2⟩ := hx.lst sm
    exact .inl ⟨a, vs, rfl, h1, fun p hp => hq _ (upd F p (.lst (cutV vs lo hi))) _ (.new sm hp) (.lst (SqL.of upd_same) (dpa_mono (same_upd (sm.free hp)) (dpa_cut lo hi h2)))⟩
  · cases ho
    obtain ⟨a, vs, rfl, h1, h2⟩ := hx.tup sm
    refine .inr (.inl ⟨a, vs, rfl, (sqn_mono sm h1).sq, fun hw => ?_, fun p us hp => hq _ (upd F p (tupN us (cutV vs lo hi))) _ (.new sm hp) (.tup (SqN.of upd_same) (dpa_mono (same_upd (sm.free hp)) (dpa_cut lo hi h2)))⟩)
    rw [dpa_length h2] at hw
    rw [cutD_all hw] at hq
    exact hq _ F H (.refl sm) (.tup h1 h2)
  · split at ho
    · cases ho
      rename_i hl
      exact .inr (.inr ⟨_, hx.str, le_lim hl, hq _ F H (.refl sm) (.str _)⟩)
    · cases ho
  · cases ho
theorem sliceL_ok {K : PySem.W.Frag} : SlOk K (rSlL K) kN sliceL := by
  intro F H x d z lo hi Q sm hx ho hq
  unfold sliceL at ho
  split at ho
  · cases ho
    obtain ⟨a, vs, rfl, h1, h2⟩ := hx.lst sm
    exact ⟨a, vs, rfl, h1, fun p hp => hq _ F _ (.own sm hp) ⟨p, _, _, rfl, rfl, hp, sm.free hp, upd_same, dpa_cut lo hi h2⟩⟩
  · cases ho
section
variable {X : Cx} {xc : Nat → Addr} {W : WX} {k : Kd} {e a b c : Expr} {es : List Expr} {g ga gb gc : Rho → RE PyData} {gl gh : Rho → RE (Option Int)} {n : Nat} {pos p2 : Pos} {lo hi : Option Expr}
theorem slice_gen {r : V → Option Int → Option Int → Hp → VK → Prop} {f : PyData → Option Int → Option Int → Option PyData} (hr : SlR X r) (hk : Kd.Back k) (hf : SlOk X.K r k f) (h : DE X xc W kE e g) (hl : DO X xc W lo gl) (hh : DO X xc W hi gh) : DE X xc W k (.Subscript e (.Slice lo hi none p2) pos) (dSl f g gl gh) := PE.imp (pe_slice hr h hl hh) fun σ H Q ⟨F0, H0, ρ, F, r, hb, hq, hx⟩ => by
  refine eC.go r hb hx fun d ed v F1 H1 x1 r1 k1 hb1 hx1 => ?_
  refine oC.go r1 hb1 hx1 fun l el F2 H2 x2 r2 hb2 hx2 => ?_
  refine oC.go r2 hb2 hx2 fun u eu F3 H3 x3 r3 hb3 hx3 => ?_
  obtain ⟨z, ez⟩ := R.of_ne_bad hb3
  refine hf F3 H3 v d z l u Q r3.same (k1.step (x2.trans x3)) ez fun w F4 H4 x4 k4 => hq z ?_ w F4 H4 (((x1.trans x2).trans x3).trans x4) (hk _ _ _ _ _ _ _ _ _ ((x1.trans x2).trans x3) k4)
  show (g ρ).bind _ = _
  rw [ed, R.bind_ok, el, R.bind_ok, eu, R.bind_ok, ez]; rfl
theorem de_sl (h : DE X xc W kE e g) (hl : DO X xc W lo gl) (hh : DO X xc W hi gh) : DE X xc W kF (.Subscript e (.Slice lo hi none p2) pos) (dSl sliceD g gl gh) := slice_gen (sl_list.or (sl_tupU.or sl_str)) kF_back sliceD_ok h hl hh
theorem de_slL (h : DE X xc W kE e g) (hl : DO X xc W lo gl) (hh : DO X xc W hi gh) : DE X xc W kN (.Subscript e (.Slice lo hi none p2) pos) (dSl sliceL g gl gh) := slice_gen sl_list kN_back sliceL_ok h hl hh
def revT : PyData → Option PyData
  | .tuple xs => some (.tuple xs.reverse)
  | _ => none
def revL : PyData → Option PyData
  | .list xs => some (.list xs.reverse)
  | _ => none
theorem de_revT {m : Nat} {p1 p2 p3 : Pos} (h : DE X xc W kE e g) : DE X xc W kF (.Subscript e (.Slice none none (some (.UnaryOp .USub (.Constant (.int 1) m p1) p2)) p3) pos) (dUn revT g) := PE.imp (pe_revT h) fun σ H Q ⟨F0, H0, ρ, F, r, hb, hq, hx⟩ => by
  refine eC.go r hb hx fun d ed v F1 H1 x1 r1 k1 hb1 hx1 => ?_
  obtain ⟨z, ez⟩ := R.of_ne_bad hb1
  unfold revT at ez
  split at ez
  · cases ez
    obtain ⟨a, vs, rfl, h1, h2⟩ := k1.tup r1.same
    refine ⟨a, vs, rfl, (sqn_mono r1.same h1).sq, fun p us hp => hq _ ?_ _ (upd F1 p (tupN us vs.reverse)) _ (x1.trans (.new r1.same hp)) (.tup (SqN.of upd_same) (dpa_mono (same_upd (r1.same.free hp)) (dpa_reverse h2)))⟩
    show (g ρ).bind _ = _
    rw [ed]; rfl
  · cases ez
theorem de_revL {m : Nat} {p1 p2 p3 : Pos} (h : DE X xc W kE e g) : DE X xc W kN (.Subscript e (.Slice none none (some (.UnaryOp .USub (.Constant (.int 1) m p1) p2)) p3) pos) (dUn revL g) := PE.imp (pe_revL h) fun σ H Q ⟨F0, H0, ρ, F, r, hb, hq, hx⟩ => by
  refine eC.go r hb hx fun d ed v F1 H1 x1 r1 k1 hb1 hx1 => ?_
  obtain ⟨z, ez⟩ := R.of_ne_bad hb1
  unfold revL at ez
  split at ez
  · cases ez
    obtain ⟨a, vs, rfl, h1, h2⟩ := k1.lst r1.same
    refine ⟨a, vs, rfl, h1, fun p hp => hq _ ?_ _ F1 _ (x1.trans (.own r1.same hp)) ⟨p, _, _, rfl, rfl, x1.hh.free hp, r1.same.free hp, upd_same, dpa_reverse h2⟩⟩
    show (g ρ).bind _ = _
    rw [ed]; rfl
  · cases ez
end

/-! ### built-ins -/
def C1Ok (K : PySem.W.Frag) (r : List V → Hp → VK → Prop) (k : Kd) (f : PyData → Option PyData) : Prop :=
  ∀ (F H : Hp) (x : V) (d z : PyData) (Q : VK), Same F H → DpS K F H x d → f d = some z → (∀ v F2 H2, Fz F H F2 H2 → k K F H F2 H2 v z → Q v H2) → r [x] H Q
def C2Ok (K : PySem.W.Frag) (r : List V → Hp → VK → Prop) (k : Kd) (f : PyData → PyData → Option PyData) : Prop :=
  ∀ (F H : Hp) (x y : V) (d e z : PyData) (Q : VK), Same F H → DpS K F H x d → DpS K F H y e → f d e = some z → (∀ v F2 H2, Fz F H F2 H2 → k K F H F2 H2 v z → Q v H2) → r [x, y] H Q
section
variable {X : Cx} {xc : Nat → Addr} {W : WX} {k : Kd} {e a b c : Expr} {es : List Expr} {g ga gb gc : Rho → RE PyData} {n : Nat} {pos p : Pos} {r : List V → Hp → VK → Prop} {id T : String} {x : Str}
theorem call1_imp {K : PySem.W.Frag} {f : PyData → Option PyData} {σ : L2.St} {H : Hp} {Q : VK} (hk : Kd.Back k) (ho : C1Ok K r k f) : eC K xc W k (dUn f g) σ H Q → tCB r (tCons (eC K xc W kE g) tNil) σ H Q := fun ⟨F0, H0, ρ, F, r, hb, hq, hx⟩ => by
  refine eC.go r hb hx fun d ed v F1 H1 x1 r1 k1 hb1 hx1 => ?_
  obtain ⟨z, ez⟩ := R.of_ne_bad hb1
  refine ho F1 H1 v d z Q r1.same k1 ez fun w F2 H2 x2 k2 => hq z ?_ w F2 H2 (x1.trans x2) (hk _ _ _ _ _ _ _ _ _ x1 k2)
  show (g ρ).bind _ = _
  rw [ed, R.bind_ok, ez]; rfl
theorem call2_imp {K : PySem.W.Frag} {f : PyData → PyData → Option PyData} {σ : L2.St} {H : Hp} {Q : VK} (hk : Kd.Back k) (ho : C2Ok K r k f) : eC K xc W k (dBin f ga gb) σ H Q → tCB r (tCons (eC K xc W kE ga) (tCons (eC K xc W kE gb) tNil)) σ H Q := fun ⟨F0, H0, ρ, F, r, hb, hq, hx⟩ => by
  refine eC.go r hb hx fun d ed v F1 H1 x1 r1 k1 hb1 hx1 => ?_
  refine eC.go r1 hb1 hx1 fun d2 ed2 v2 F2 H2 x2 r2 k2 hb2 hx2 => ?_
  obtain ⟨z, ez⟩ := R.of_ne_bad hb2
  refine ho F2 H2 v v2 d d2 z Q r2.same (k1.step x2) k2 ez fun w F3 H3 x3 k3 => hq z ?_ w F3 H3 ((x1.trans x2).trans x3) (hk _ _ _ _ _ _ _ _ _ (x1.trans x2) k3)
  show (ga ρ).bind _ = _
  rw [ed, R.bind_ok, ed2, R.bind_ok, ez]; rfl
theorem de_cB {f : PyData → Option PyData} (hk : Kd.Back k) (ho : C1Ok X.K r k f) (hc : CallR X (.builtin id) r) (hg : Gl X x) (hm : X.mg x = none) (hv : bootBuiltins x = some (.builtin id)) (h : DE X xc W kE e g) (hn : x ≠ "__name__" := by decide) (hdb : (x == ("__debug__" : Str)) = false := by decide)
    (hst : starEach [e] X.env = (false, eval e X.env) :: starEach [] X.env := by rfl) : DE X xc W k (.Call (.Name x p) [e] [] pos) (dUn f g) := PE.imp (pe_callB hc hg hm hv (pa_cons h pa_nil hst) hn hdb hst) fun σ H Q => call1_imp hk ho
theorem de_cT {f : PyData → Option PyData} (hk : Kd.Back k) (ho : C1Ok X.K r k f) (hc : CallR X (.type T) r) (hg : Gl X x) (hm : X.mg x = none) (hv : bootBuiltins x = some (.type T)) (h : DE X xc W kE e g) (hn : x ≠ "__name__" := by decide) (hdb : (x == ("__debug__" : Str)) = false := by decide)
    (hst : starEach [e] X.env = (false, eval e X.env) :: starEach [] X.env := by rfl) : DE X xc W k (.Call (.Name x p) [e] [] pos) (dUn f g) := PE.imp (pe_callTy hc hg hm hv (pa_cons h pa_nil hst) hn hdb hst) fun σ H Q => call1_imp hk ho
theorem de_cB2 {f : PyData → PyData → Option PyData} (hk : Kd.Back k) (ho : C2Ok X.K r k f) (hc : CallR X (.builtin id) r) (hg : Gl X x) (hm : X.mg x = none) (hv : bootBuiltins x = some (.builtin id)) (ha : DE X xc W kE a ga) (hb : DE X xc W kE b gb) (hn : x ≠ "__name__" := by decide) (hdb : (x == ("__debug__" : Str)) = false := by decide)
    (hst : starEach [a, b] X.env = (false, eval a X.env) :: starEach [b] X.env := by rfl) (hst2 : starEach [b] X.env = (false, eval b X.env) :: starEach [] X.env := by rfl) (hpl : (backTo pos (starEach [b] X.env)).any (·.1) = false := by rfl) : DE X xc W k (.Call (.Name x p) [a, b] [] pos) (dBin f ga gb) := PE.imp (pe_callB hc hg hm hv (pa_cons ha (pa_cons hb pa_nil hst2) hst) hn hdb hst hpl) fun σ H Q => call2_imp hk ho
def lenD : PyData → Option PyData
  | .list xs => some (.int xs.length)
  | .tuple xs => some (.int xs.length)
  | .str z => if z.length ≤ lim then some (.int z.length) else none
  | _ => none
theorem lenD_ok {K : PySem.W.Frag} : C1Ok K (fun xs H Q => ∃ x n, xs = [x] ∧ LenV K x H n ∧ Q (.int n) H) kF lenD := by
  intro F H x d z Q sm hx ho hq
  unfold lenD at ho
  split at ho
  · cases ho
    obtain ⟨a, vs, rfl, h1, h2⟩ := hx.lst sm
    exact ⟨_, vs.length, rfl, .inl ⟨vs, h1, rfl⟩, hq _ F H (.refl sm) (by rw [dpa_length h2]; exact .int _)⟩
  · cases ho
    obtain ⟨a, vs, rfl, h1, h2⟩ := hx.tup sm
    exact ⟨_, vs.length, rfl, .inr ⟨vs, (sqn_mono sm h1).sq, rfl⟩, hq _ F H (.refl sm) (by rw [dpa_length h2]; exact .int _)⟩
  · split at ho
    · cases ho
      rename_i hl
      exact ⟨_, _, rfl, by rw [hx.str]; exact ⟨le_lim hl, rfl⟩, hq _ F H (.refl sm) (.int _)⟩
    · cases ho
  · cases ho
theorem de_len (hg : Gl X "len") (hm : X.mg "len" = none) (h : DE X xc W kE e g) (hst : starEach [e] X.env = (false, eval e X.env) :: starEach [] X.env := by rfl) : DE X xc W kF (.Call (.Name "len" p) [e] [] pos) (dUn lenD g) := de_cB kF_back lenD_ok call_len hg hm PySem.boot_len h (by decide) (by decide) hst
def listD : PyData → Option PyData
  | .list xs => some (.list xs)
  | .tuple xs => some (.list xs)
  | _ => none
theorem listD_ok {K : PySem.W.Frag} : C1Ok K (fun xs H Q => ∃ p ys, xs = [.ref p] ∧ (SqL K H p ys ∨ SqT K H p ys) ∧ ∀ l, H l = none → Q (.ref l) (upd H l (.lst ys))) kN listD := by
  intro F H x d z Q sm hx ho hq
  unfold listD at ho
  split at ho
  · cases ho
    obtain ⟨a, vs, rfl, h1, h2⟩ := hx.lst sm
    exact ⟨_, vs, rfl, .inl h1, fun p hp => hq _ F _ (.own sm hp) ⟨p, _, _, rfl, rfl, hp, sm.free hp, upd_same, h2⟩⟩
  · cases ho
    obtain ⟨a, vs, rfl, h1, h2⟩ := hx.tup sm
    exact ⟨_, vs, rfl, .inr (sqn_mono sm h1).sq, fun p hp => hq _ F _ (.own sm hp) ⟨p, _, _, rfl, rfl, hp, sm.free hp, upd_same, h2⟩⟩
  · cases ho
theorem boot_list : bootBuiltins "list" = some (.type "list") := by decide +kernel
theorem boot_tuple : bootBuiltins "tuple" = some (.type "tuple") := by decide +kernel
theorem boot_int : bootBuiltins "int" = some (.type "int") := by decide +kernel
theorem boot_str : bootBuiltins "str" = some (.type "str") := by decide +kernel
theorem boot_bool : bootBuiltins "bool" = some (.type "bool") := by decide +kernel
theorem boot_max : bootBuiltins "max" = some (.builtin "max") := by decide +kernel
theorem boot_min : bootBuiltins "min" = some (.builtin "min") := by decide +kernel
theorem boot_sum : bootBuiltins "sum" = some (.builtin "sum") := by decide +kernel
theorem boot_isi : bootBuiltins "isinstance" = some (.builtin "isinstance") := by decide +kernel
theorem de_list (hg : Gl X "list") (hm : X.mg "list" = none) (h : DE X xc W kE e g) (hst : starEach [e] X.env = (false, eval e X.env) :: starEach [] X.env := by rfl) : DE X xc W kN (.Call (.Name "list" p) [e] [] pos) (dUn listD g) := de_cT kN_back listD_ok call_list_of hg hm boot_list h (by decide) (by decide) hst
def tupleD : PyData → Option PyData
  | .list xs => some (.tuple xs)
  | .tuple xs => some (.tuple xs)
  | _ => none
def rTupOf (K : PySem.W.Frag) : List V → Hp → VK → Prop := fun xs H Q => ∃ p ys, xs = [.ref p] ∧ ((SqL K H p ys ∧ ∀ l us, H l = none → Q (.ref l) (upd H l (tupN us ys))) ∨ (SqT K H p ys ∧ Q (.ref p) H))
theorem call_tuple_ofN : CallR X (.type "tuple") (rTupOf X.K) := by
  intro pins s σ H xs us Q I r h
  obtain ⟨p, ys, rfl, h⟩ := h
  obtain ⟨u, rfl, rx⟩ := vals1 r
  cases rx
  rcases h with ⟨hq, q⟩ | ⟨hq, q⟩
  · obtain ⟨its, r', pl, hz⟩ := I.list hq
    have hlen := r'.length
    refine call_tuple_list pl.isList (fun h' kp => ?_) (by simp only [List.size_toArray] <;> omega)
    have I1 : Inv X pins σ H { s with heap := h' } := I.kept (t' := s.toks) kp
    have I2 : Inv X pins σ (upd H h'.objs.size (tupN its ys)) { s with heap := h'.push { cls := .type "tuple", data := .seq its.toArray } } :=
      I1.laid (t' := s.toks) (fun b o e => Heap.get?_push_of_some _ e) (Nat.le_refl _) (show ObjOk X.prog X.w _ _ _ (tupN its ys) from ⟨Heap.get?_push_size _ rfl, hz, its, r', IsTup.new _ _⟩)
    exact ⟨.ref h'.objs.size, _, I2, rfl, q _ _ (I1.hok.fresh (Nat.le_refl _))⟩
  · obtain ⟨its, r', pl, hz⟩ := I.tuple hq
    exact call_tuple_same pl ⟨.ref p, H, I, rfl, q⟩
theorem tupleD_ok {K : PySem.W.Frag} : C1Ok K (rTupOf K) kF tupleD := by
  intro F H x d z Q sm hx ho hq
  unfold tupleD at ho
  split at ho
  · cases ho
    obtain ⟨a, vs, rfl, h1, h2⟩ := hx.lst sm
    exact ⟨_, vs, rfl, .inl ⟨h1, fun p us hp => hq _ (upd F p (tupN us vs)) _ (.new sm hp) (.tup (SqN.of upd_same) (dpa_mono (same_upd (sm.free hp)) h2))⟩⟩
  · cases ho
    obtain ⟨a, vs, rfl, h1, h2⟩ := hx.tup sm
    exact ⟨_, vs, rfl, .inr ⟨(sqn_mono sm h1).sq, hq _ F H (.refl sm) (.tup h1 h2)⟩⟩
  · cases ho
theorem de_tuple (hg : Gl X "tuple") (hm : X.mg "tuple" = none) (h : DE X xc W kE e g) (hst : starEach [e] X.env = (false, eval e X.env) :: starEach [] X.env := by rfl) : DE X xc W kF (.Call (.Name "tuple" p) [e] [] pos) (dUn tupleD g) := de_cT kF_back tupleD_ok call_tuple_ofN hg hm boot_tuple h (by decide) (by decide) hst
def intD : PyData → Option PyData
  | .int i => some (.int i)
  | .bool b => some (.int (if b then 1 else 0))
  | _ => none
theorem de_int1 (hg : Gl X "int") (hm : X.mg "int" = none) (h : DE X xc W kE e g) (hst : starEach [e] X.env = (false, eval e X.env) :: starEach [] X.env := by rfl) : DE X xc W kF (.Call (.Name "int" p) [e] [] pos) (dUn intD g) := by
  refine de_cT kF_back (fun F H x d z Q sm hx ho hq => ?_) call_int1 hg hm boot_int h (by decide) (by decide) hst
  unfold intD at ho
  split at ho
  · cases ho; exact .inl ⟨_, by rw [hx.int], hq _ F H (.refl sm) (.int _)⟩
  · cases ho; exact .inr ⟨_, by rw [hx.bl], hq _ F H (.refl sm) (.int _)⟩
  · cases ho
def strD : PyData → Option PyData
  | .int i => if i.natAbs ≤ lim then some (.str (toString i)) else none
  | _ => none
theorem log_lim {n : Nat} (h : n ≤ lim) : n.log2 < 1920 := by
  by_cases hn : n = 0
  · subst hn; decide
  · exact (Nat.log2_lt hn).mpr (Nat.lt_of_le_of_lt h (Nat.lt_of_lt_of_le (by decide : lim < 2 ^ 20) (Nat.pow_le_pow_right (by decide) (by decide))))
theorem de_str1 (hg : Gl X "str") (hm : X.mg "str" = none) (h : DE X xc W kE e g) (hst : starEach [e] X.env = (false, eval e X.env) :: starEach [] X.env := by rfl) : DE X xc W kF (.Call (.Name "str" p) [e] [] pos) (dUn strD g) := by
  refine de_cT kF_back (fun F H x d z Q sm hx ho hq => ?_) call_str_int hg hm boot_str h (by decide) (by decide) hst
  unfold strD at ho
  split at ho
  · split at ho
    · cases ho
      rename_i hl
      exact ⟨_, by rw [hx.int], log_lim hl, hq _ F H (.refl sm) (.str _)⟩
    · cases ho
  · cases ho
def max2D := intOp0 fun i j => .int (if j > i then j else i)
def min2D := intOp0 fun i j => .int (if j < i then j else i)
theorem de_max2 (hc : X.calm = true) (hg : Gl X "max") (hm : X.mg "max" = none) (ha : DE X xc W kE a ga) (hb : DE X xc W kE b gb)
    (hst : starEach [a, b] X.env = (false, eval a X.env) :: starEach [b] X.env := by rfl) (hst2 : starEach [b] X.env = (false, eval b X.env) :: starEach [] X.env := by rfl) (hpl : (backTo pos (starEach [b] X.env)).any (·.1) = false := by rfl) : DE X xc W kF (.Call (.Name "max" p) [a, b] [] pos) (dBin max2D ga gb) := by
  refine de_cB2 kF_back (fun F H x y d e z Q sm hx hy ho hq => ?_) (call_max2 hc) hg hm boot_max ha hb (by decide) (by decide) hst hst2 hpl
  unfold max2D intOp0 at ho
  split at ho
  · cases ho; exact ⟨_, _, by rw [hx.int, hy.int], hq _ F H (.refl sm) (.int _)⟩
  · cases ho
theorem de_min2 (hc : X.calm = true) (hg : Gl X "min") (hm : X.mg "min" = none) (ha : DE X xc W kE a ga) (hb : DE X xc W kE b gb)
    (hst : starEach [a, b] X.env = (false, eval a X.env) :: starEach [b] X.env := by rfl) (hst2 : starEach [b] X.env = (false, eval b X.env) :: starEach [] X.env := by rfl) (hpl : (backTo pos (starEach [b] X.env)).any (·.1) = false := by rfl) : DE X xc W kF (.Call (.Name "min" p) [a, b] [] pos) (dBin min2D ga gb) := by
  refine de_cB2 kF_back (fun F H x y d e z Q sm hx hy ho hq => ?_) (call_min2 hc) hg hm boot_min ha hb (by decide) (by decide) hst hst2 hpl
  unfold min2D intOp0 at ho
  split at ho
  · cases ho; exact ⟨_, _, by rw [hx.int, hy.int], hq _ F H (.refl sm) (.int _)⟩
  · cases ho
/-! max, sum of a list of ints -/
def intsOf : List PyData → Option (List Int)
  | [] => some []
  | .int i :: r => (intsOf r).map (i :: ·)
  | _ :: _ => none
theorem intsOf_eq : ∀ {ds : List PyData} {ns : List Int}, intsOf ds = some ns → ds = ns.map .int
  | [], ns, h => by cases h; rfl
  | d :: r, ns, h => by
    cases d with
    | int i =>
      show PyData.int i :: r = _
      have h' : (intsOf r).map (i :: ·) = some ns := h
      cases q : intsOf r with
      | none => rw [q] at h'; cases h'
      | some ms => rw [q] at h'; cases h'; rw [intsOf_eq q]; rfl
    | _ => cases h
theorem intsOf_map : ∀ ns : List Int, intsOf (ns.map .int) = some ns
  | [] => rfl
  | n :: ns => by
    show (intsOf (ns.map .int)).map (n :: ·) = _
    rw [intsOf_map ns]; rfl
def maxI : List Int → Option Int
  | [] => none
  | n :: ns => some (ns.foldl (fun a b => if a < b then b else a) n)
def maxD : PyData → Option PyData
  | .list xs => ((intsOf xs).bind maxI).map .int
  | _ => none
def sumD : PyData → Option PyData
  | .list xs => (intsOf xs).map fun ns => .int ns.sum
  | _ => none
theorem foldmax : ∀ (ns : List Int) (n m : Int), m ∈ n :: ns → (∀ y ∈ n :: ns, y ≤ m) → ns.foldl (fun a b => if a < b then b else a) n = m
  | [], n, m, h, _ => by simp at h; exact h.symm
  | k :: ns, n, m, h, hl => by
    rw [List.foldl_cons]
    have hk := hl k (by simp)
    have hn := hl n (by simp)
    refine foldmax ns _ m ?_ fun y hy => ?_
    · split
      · rename_i hlt
        rcases List.mem_cons.mp h with rfl | h
        · omega
        · exact h
      · rename_i hlt
        rcases List.mem_cons.mp h with rfl | h
        · simp
        · rcases List.mem_cons.mp h with rfl | h
          · have : m = n := by omega
            simp [this]
          · simp [h]
    · rcases List.mem_cons.mp hy with rfl | hy
      · split <;> assumption
      · exact hl y (by simp [hy])
theorem de_max (hc : X.calm = true) (hg : Gl X "max") (hm : X.mg "max" = none) (h : DE X xc W kE e g) (hst : starEach [e] X.env = (false, eval e X.env) :: starEach [] X.env := by rfl) : DE X xc W kF (.Call (.Name "max" p) [e] [] pos) (dUn maxD g) := by
  refine de_cB kF_back (fun F H x d z Q sm hx ho hq => ?_) (cr_max hc) hg hm boot_max h (by decide) (by decide) hst
  unfold maxD at ho
  split at ho
  · rename_i xs
    cases q : intsOf xs with
    | none => rw [q] at ho; cases ho
    | some ns =>
      rw [q] at ho
      have e := intsOf_eq q
      subst e
      obtain ⟨a, vs, rfl, h1, h2⟩ := hx.lst sm
      have e := dpa_ints h2
      subst e
      cases ns with
      | nil => cases ho
      | cons n ns =>
        cases ho
        refine ⟨a, n :: ns, rfl, h1, Nat.zero_lt_succ _, fun m h3 h4 => ?_⟩
        rw [foldmax ns n m h3 h4] at hq
        exact hq _ F H (.refl sm) (.int _)
  · cases ho
theorem de_sum (hc : X.calm = true) (hg : Gl X "sum") (hm : X.mg "sum" = none) (h : DE X xc W kE e g) (hst : starEach [e] X.env = (false, eval e X.env) :: starEach [] X.env := by rfl) : DE X xc W kF (.Call (.Name "sum" p) [e] [] pos) (dUn sumD g) := by
  refine de_cB kF_back (fun F H x d z Q sm hx ho hq => ?_) (cr_sum hc) hg hm boot_sum h (by decide) (by decide) hst
  unfold sumD at ho
  split at ho
  · rename_i xs
    cases q : intsOf xs with
    | none => rw [q] at ho; cases ho
    | some ns =>
      rw [q] at ho
      have e := intsOf_eq q
      subst e
      obtain ⟨a, vs, rfl, h1, h2⟩ := hx.lst sm
      have e := dpa_ints h2
      subst e
      cases ho
      exact ⟨a, ns, rfl, h1, hq _ F H (.refl sm) (.int _)⟩
  · cases ho

/-! ### isinstance of data -/
def dTy : PyData → String
  | .none => "NoneType"
  | .bool _ => "bool"
  | .int _ => "int"
  | .str _ => "str"
  | .list _ => "list"
  | .tuple _ => "tuple"
  | .dict _ => "dict"
theorem sqL_ty {K : PySem.W.Frag} {H : Hp} {a : Addr} {vs : List V} (h : SqL K H a vs) : TyX K H (.ref a) (.type "list") := by
  rcases h with (h | ⟨o, h⟩) | ⟨o, its, n, hk, hc, _⟩
  · exact .base (.lst h)
  · exact .base (.frz h)
  · exact .kList hk hc
theorem sqT_ty {K : PySem.W.Frag} {H : Hp} {a : Addr} {vs : List V} (h : SqT K H a vs) : TyX K H (.ref a) (.type "tuple") := by
  rcases h with (h | ⟨o, h⟩) | ⟨o, its, n, hk, hc, _⟩
  · exact .base (.tup h)
  · exact .fTuple h
  · exact .kTuple hk hc
theorem dTy_ok {K : PySem.W.Frag} {F H : Hp} {v : V} {d : PyData} (sm : Same F H) (h : DpS K F H v d) : TyX K H v (.type (dTy d)) := by
  cases d with
  | none => rw [h.non]; exact .base .non
  | bool c => rw [h.bl]; exact .base (.bl _)
  | int i => rw [h.int]; exact .base (.int _)
  | str y => rw [h.str]; exact .base (.str _)
  | list xs =>
    obtain ⟨a, vs, rfl, h1, h2⟩ := h.lst sm
    exact sqL_ty h1
  | tuple xs =>
    obtain ⟨a, vs, rfl, h1, h2⟩ := h.tup sm
    exact sqT_ty (sqn_mono sm h1).sq
  | dict xs =>
    rcases h with h | ⟨_, _, _, _, q, _⟩
    · cases h
    · cases q
/-- isinstance(x, T) -/
def isiD (T : String) (d : PyData) : Option PyData := some (.bool (dTy d == T || (dTy d == "bool" && T == "int")))
theorem kitB_int (d : PyData) (h : dTy d ≠ "dict") : kitB (dTy d) "int" = some (dTy d == "int" || (dTy d == "bool" && ("int" : String) == "int")) := by
  cases d <;> first | exact absurd rfl h | (simp only [dTy]; decide +kernel)
theorem kitB_bool (d : PyData) (h : dTy d ≠ "dict") : kitB (dTy d) "bool" = some (dTy d == "bool" || (dTy d == "bool" && ("bool" : String) == "int")) := by
  cases d <;> first | exact absurd rfl h | (simp only [dTy]; decide +kernel)
theorem kitB_str (d : PyData) (h : dTy d ≠ "dict") : kitB (dTy d) "str" = some (dTy d == "str" || (dTy d == "bool" && ("str" : String) == "int")) := by
  cases d <;> first | exact absurd rfl h | (simp only [dTy]; decide +kernel)
theorem kitB_tuple (d : PyData) (h : dTy d ≠ "dict") : kitB (dTy d) "tuple" = some (dTy d == "tuple" || (dTy d == "bool" && ("tuple" : String) == "int")) := by
  cases d <;> first | exact absurd rfl h | (simp only [dTy]; decide +kernel)
theorem dps_nodict {K : PySem.W.Frag} {F H : Hp} {v : V} {d : PyData} (h : DpS K F H v d) : dTy d ≠ "dict" := by
  rcases h with h | ⟨_, _, _, _, q, _⟩
  · cases h <;> simp [dTy]
  · subst q; simp [dTy]
theorem isi_gen {b : Expr} {T : String} (kt : ∀ d, dTy d ≠ "dict" → kitB (dTy d) T = some (dTy d == T || (dTy d == "bool" && T == "int"))) (hg : Gl X "isinstance") (hm : X.mg "isinstance" = none) (ha : DE X xc W kE a ga) (hb : PE X b (tC (.ty T)))
    (hst : starEach [a, b] X.env = (false, eval a X.env) :: starEach [b] X.env := by rfl) (hst2 : starEach [b] X.env = (false, eval b X.env) :: starEach [] X.env := by rfl) (hpl : (backTo pos (starEach [b] X.env)).any (·.1) = false := by rfl) : DE X xc W kF (.Call (.Name "isinstance" p) [a, b] [] pos) (dUn (isiD T) ga) :=
  PE.imp (pe_callB call_isi hg hm boot_isi (pa_cons ha (pa_cons hb pa_nil hst2) hst) (by decide) (by decide) hst hpl) fun σ H Q ⟨F0, H0, ρ, F, r, hbd, hq, hx⟩ => by
  refine eC.go r hbd hx fun d ed v F1 H1 x1 r1 k1 hb1 hx1 => ?_
  refine ⟨v, .ty T, _, .type T, _, rfl, .ty T, dTy_ok r1.same k1, kit_ty (kt d (dps_nodict k1)), hq _ ?_ _ F1 H1 x1 (.bl _)⟩
  show (ga ρ).bind _ = _
  rw [ed]; rfl
theorem de_isiInt {p1 : Pos} (hg : Gl X "isinstance") (hm : X.mg "isinstance" = none) (hgT : Gl X "int") (hmT : X.mg "int" = none) (ha : DE X xc W kE a ga)
    (hst : starEach [a, .Name "int" p1] X.env = (false, eval a X.env) :: starEach [.Name "int" p1] X.env := by rfl) : DE X xc W kF (.Call (.Name "isinstance" p) [a, .Name "int" p1] [] pos) (dUn (isiD "int") ga) := isi_gen kitB_int hg hm ha (pe_bltn hgT hmT boot_int rfl) hst
theorem de_isiBool {p1 : Pos} (hg : Gl X "isinstance") (hm : X.mg "isinstance" = none) (hgT : Gl X "bool") (hmT : X.mg "bool" = none) (ha : DE X xc W kE a ga)
    (hst : starEach [a, .Name "bool" p1] X.env = (false, eval a X.env) :: starEach [.Name "bool" p1] X.env := by rfl) : DE X xc W kF (.Call (.Name "isinstance" p) [a, .Name "bool" p1] [] pos) (dUn (isiD "bool") ga) := isi_gen kitB_bool hg hm ha (pe_bltn hgT hmT boot_bool rfl) hst
theorem de_isiStr {p1 : Pos} (hg : Gl X "isinstance") (hm : X.mg "isinstance" = none) (hgT : Gl X "str") (hmT : X.mg "str" = none) (ha : DE X xc W kE a ga)
    (hst : starEach [a, .Name "str" p1] X.env = (false, eval a X.env) :: starEach [.Name "str" p1] X.env := by rfl) : DE X xc W kF (.Call (.Name "isinstance" p) [a, .Name "str" p1] [] pos) (dUn (isiD "str") ga) := isi_gen kitB_str hg hm ha (pe_bltn hgT hmT boot_str rfl) hst
theorem de_isiTuple {p1 : Pos} (hg : Gl X "isinstance") (hm : X.mg "isinstance" = none) (hgT : Gl X "tuple") (hmT : X.mg "tuple" = none) (ha : DE X xc W kE a ga)
    (hst : starEach [a, .Name "tuple" p1] X.env = (false, eval a X.env) :: starEach [.Name "tuple" p1] X.env := by rfl) : DE X xc W kF (.Call (.Name "isinstance" p) [a, .Name "tuple" p1] [] pos) (dUn (isiD "tuple") ga) := isi_gen kitB_tuple hg hm ha (pe_bltn hgT hmT boot_tuple rfl) hst
end
end VS
end
section
set_option Elab.async false
set_option linter.all false
set_option maxRecDepth 100000
set_option autoImplicit false
namespace VS
open PySem PySem.Spec PyProof.Rows L2

/-! ### defs called -/
def AOk (K : PySem.W.Frag) (F H : Hp) : List Bool → List V → List PyData → Prop
  | [], vs, ds => vs = [] ∧ ds = []
  | b :: ks, vs, ds => ∃ v vs' d ds', vs = v :: vs' ∧ ds = d :: ds' ∧ (if b = true then Dq K F v d else DpS K F H v d) ∧ AOk K F H ks vs' ds'
theorem AOk.step {K : PySem.W.Frag} {F H F2 H2 : Hp} (x : Fz F H F2 H2) : ∀ {ks : List Bool} {vs : List V} {ds : List PyData}, AOk K F H ks vs ds → AOk K F2 H2 ks vs ds
  | [], _, _, h => h
  | b :: ks, _, _, ⟨v, vs', d, ds', h1, h2, h3, h4⟩ => ⟨v, vs', d, ds', h1, h2, by
      cases b with
      | true => rw [if_pos rfl] at h3 ⊢; exact dp_mono x.ff h3
      | false => rw [if_neg Bool.false_ne_true] at h3 ⊢; exact h3.step x, AOk.step x h4⟩
theorem AOk.length {K : PySem.W.Frag} {F H : Hp} : ∀ {ks : List Bool} {vs : List V} {ds : List PyData}, AOk K F H ks vs ds → vs.length = ks.length
  | [], _, _, ⟨h, _⟩ => by rw [h]; rfl
  | b :: ks, _, _, ⟨v, vs', d, ds', h1, h2, h3, h4⟩ => by rw [h1, List.length_cons, List.length_cons, AOk.length h4]
theorem AOk.length' {K : PySem.W.Frag} {F H : Hp} : ∀ {ks : List Bool} {vs : List V} {ds : List PyData}, AOk K F H ks vs ds → ds.length = ks.length
  | [], _, _, ⟨_, h⟩ => by rw [h]; rfl
  | b :: ks, _, _, ⟨v, vs', d, ds', h1, h2, h3, h4⟩ => by rw [h2, List.length_cons, List.length_cons, AOk.length' h4]
def bC (K : PySem.W.Frag) (xc : Nat → Addr) (W : WX) (ks : List Bool) (g : Rho → RE (List PyData)) : TA := fun σ H Q => ∃ F0 H0 ρ F, SRel K F0 H0 ρ σ F H ∧ g ρ ≠ .bad ∧
  (∀ ds, g ρ = .ok ds → ∀ vs F2 H2, Fz F H F2 H2 → AOk K F2 H2 ks vs ds → Q vs H2) ∧
  (∀ x, g ρ = .ex x → ∀ cls dd F2 H2, Fz F H F2 H2 → XOk K xc F2 H2 x cls dd → W cls dd σ H2)
abbrev DB (X : Cx) (xc : Nat → Addr) (W : WX) (ks : List Bool) (es : List Expr) (g : Rho → RE (List PyData)) : Prop := PA X es (bC X.K xc W ks g)
theorem bC.go {K : PySem.W.Frag} {xc : Nat → Addr} {W : WX} {ks : List Bool} {g : Rho → RE (List PyData)} {β : Type} {f : List PyData → RE β} {F0 H0 F H : Hp} {ρ : Rho} {σ : L2.St} {Q : List V → Hp → Prop} (r : SRel K F0 H0 ρ σ F H) (hb : (g ρ).bind f ≠ .bad)
    (hx : ∀ x, (g ρ).bind f = .ex x → ∀ cls dd F2 H2, Fz F H F2 H2 → XOk K xc F2 H2 x cls dd → W cls dd σ H2)
    (h : ∀ d, g ρ = .ok d → ∀ v F2 H2, Fz F H F2 H2 → SRel K F0 H0 ρ σ F2 H2 → AOk K F2 H2 ks v d → f d ≠ .bad → (∀ x, f d = .ex x → ∀ cls dd F3 H3, Fz F2 H2 F3 H3 → XOk K xc F3 H3 x cls dd → W cls dd σ H3) → Q v H2) : bC K xc W ks g σ H Q := by
  refine ⟨F0, H0, ρ, F, r, fun z => hb (by rw [z]; rfl), fun d e v F2 H2 x kk => ?_, fun x e cls dd F2 H2 z q => hx x (by rw [e]; rfl) cls dd F2 H2 z q⟩
  rw [e] at hb hx
  exact h d e v F2 H2 x (r.step x) kk hb fun y ey cls dd F3 H3 z q => hx y ey cls dd F3 H3 (x.trans z) q
/-- a def's promise: it is worth f -/
def spD (K : PySem.W.Frag) (xc : Nat → Addr) (ks : List Bool) (f : List PyData → RE PyData) : Sp := fun vs H Q E => ∃ F ds, Same F H ∧ AOk K F H ks vs ds ∧ f ds ≠ .bad ∧
  (∀ d, f ds = .ok d → ∀ v F2 H2, Fz F H F2 H2 → Dq K F2 v d → Q v H2) ∧
  (∀ x, f ds = .ex x → ∀ cls dd F2 H2, Fz F H F2 H2 → XOk K xc F2 H2 x cls dd → E cls dd H2)
def dCall (f : List PyData → RE PyData) (gs : Rho → RE (List PyData)) : Rho → RE PyData := fun ρ => (gs ρ).bind f
section
variable {X : Cx} {xc : Nat → Addr} {W : WX} {k : Kd} {e a b c : Expr} {es : List Expr} {g ga gb gc : Rho → RE PyData} {gs : Rho → RE (List PyData)} {n : Nat} {pos p : Pos} {ks : List Bool}
theorem db_nil : DB X xc W [] [] dNil := PA.imp pa_nil fun σ H Q ⟨F0, H0, ρ, F, r, hb, hq, hx⟩ => hq [] rfl [] F H (.refl r.same) ⟨rfl, rfl⟩
theorem db_F (h : DE X xc W kF e g) (hs : DB X xc W ks es gs) (hst : starEach (e :: es) X.env = (false, eval e X.env) :: starEach es X.env := by rfl) : DB X xc W (true :: ks) (e :: es) (dCons g gs) := PA.imp (pa_cons h hs hst) fun σ H Q ⟨F0, H0, ρ, F, r, hb, hq, hx⟩ => by
  refine eC.go r hb hx fun d ed v F1 H1 x1 r1 k1 hb1 hx1 => ?_
  refine bC.go r1 hb1 hx1 fun d2 ed2 v2 F2 H2 x2 r2 k2 hb2 hx2 => ?_
  refine hq (d :: d2) ?_ (v :: v2) F2 H2 (x1.trans x2) ⟨v, v2, d, d2, rfl, rfl, by rw [if_pos rfl]; exact dp_mono x2.ff k1, k2⟩
  show (g ρ).bind _ = _
  rw [ed, R.bind_ok, ed2]; rfl
theorem db_E (h : DE X xc W kE e g) (hs : DB X xc W ks es gs) (hst : starEach (e :: es) X.env = (false, eval e X.env) :: starEach es X.env := by rfl) : DB X xc W (false :: ks) (e :: es) (dCons g gs) := PA.imp (pa_cons h hs hst) fun σ H Q ⟨F0, H0, ρ, F, r, hb, hq, hx⟩ => by
  refine eC.go r hb hx fun d ed v F1 H1 x1 r1 k1 hb1 hx1 => ?_
  refine bC.go r1 hb1 hx1 fun d2 ed2 v2 F2 H2 x2 r2 k2 hb2 hx2 => ?_
  refine hq (d :: d2) ?_ (v :: v2) F2 H2 (x1.trans x2) ⟨v, v2, d, d2, rfl, rfl, by rw [if_neg Bool.false_ne_true]; exact k1.step x2, k2⟩
  show (g ρ).bind _ = _
  rw [ed, R.bind_ok, ed2]; rfl
theorem de_call {m : Nat} {f : Addr} {fd : FuncData} {ps : List Str} {x : Str} {fn : List PyData → RE PyData} (F : FnOk X.prog X.w X.K X.mg X.base (L2.CX X.prog X.w) m f fd ps (spD X.K xc ks fn)) (hr : Room m X.A) (hg : Gl X x) (hm : X.mg x = some (.ref f)) (hk : PySem.W.keepIn X.K (.ref f) = true) (hb : Binds X.K fd ps []) (tk : Takes X W)
    (ha : DB X xc W ks (e :: es) gs) (hdb : (x == ("__debug__" : Str)) = false := by decide) (he : starEach (e :: es) X.env = (false, eval e X.env) :: starEach es X.env := by rfl) (hpl : (backTo pos (starEach es X.env)).any (·.1) = false := by rfl) :
    DE X xc W kF (.Call (.Name x p) (e :: es) [] pos) (dCall fn gs) := PE.imp (pe_callS F hr hg hm hk hb (fun σ => passAt tk σ) ha hdb he hpl) fun σ H Q ⟨F0, H0, ρ, F, r, hbd, hq, hx⟩ => by
  refine bC.go r hbd hx fun d ed v F1 H1 x1 r1 k1 hb1 hx1 => ?_
  refine ⟨F1, d, r1.same, k1, hb1, fun z ez w F2 H2 x2 kz => hq z ?_ w F2 H2 (x1.trans x2) kz, fun y ey cls dd F2 H2 x2 kz => hx1 y ey cls dd F2 H2 x2 kz⟩
  show (gs ρ).bind fn = _
  rw [ed]; exact ez
end

/-! ### what is walked -/
def ItOk (K : PySem.W.Frag) (F H : Hp) (J : It) (ds : List PyData) : Prop := ∀ (i : Nat) (Fi Hi : Hp), Same F Fi → Same H Hi → Same Fi Hi →
  (ds.length ≤ i → J.stop i Hi) ∧ ∀ d, ds[i]? = some d → J.go i Hi ∧ ∀ x H', J.yld i Hi x H' → ∃ F', Fz Fi Hi F' H' ∧ Dq K F' x d
/-- over what is frozen -/
def iF (K : PySem.W.Frag) (xc : Nat → Addr) (W : WX) (g : Rho → RE (List PyData)) : TI := fun σ H R => ∃ F0 H0 ρ F, SRel K F0 H0 ρ σ F H ∧ g ρ ≠ .bad ∧
  (∀ ds, g ρ = .ok ds → ∀ J F2 H2, Fz F H F2 H2 → ItOk K F2 F2 J ds → R J H2) ∧
  (∀ x, g ρ = .ex x → ∀ cls dd F2 H2, Fz F H F2 H2 → XOk K xc F2 H2 x cls dd → W cls dd σ H2)
/-- over what stands still meanwhile -/
def iE (K : PySem.W.Frag) (xc : Nat → Addr) (W : WX) (g : Rho → RE (List PyData)) : TI := fun σ H R => ∃ F0 H0 ρ F, SRel K F0 H0 ρ σ F H ∧ g ρ ≠ .bad ∧
  (∀ ds, g ρ = .ok ds → ∀ J F2 H2, Fz F H F2 H2 → ItOk K F2 H2 J ds → R J H2) ∧
  (∀ x, g ρ = .ex x → ∀ cls dd F2 H2, Fz F H F2 H2 → XOk K xc F2 H2 x cls dd → W cls dd σ H2)
abbrev DIF (X : Cx) (xc : Nat → Addr) (W : WX) (tg iter : Expr) (g : Rho → RE (List PyData)) : Prop := PI X tg iter (iF X.K xc W g)
abbrev DIE (X : Cx) (xc : Nat → Addr) (W : WX) (tg iter : Expr) (g : Rho → RE (List PyData)) : Prop := PI X tg iter (iE X.K xc W g)
theorem PI.imp {X : Cx} {tg iter : Expr} {t t' : TI} (h : PI X tg iter t) (i : ∀ σ H R, t' σ H R → t σ H R) : PI X tg iter t' := ⟨fun pins s σ H R I q => h.run pins s σ H R I (i σ H R q)⟩
def seqD : PyData → Option (List PyData)
  | .list xs => some xs
  | .tuple xs => some xs
  | _ => none
def dSeq (g : Rho → RE PyData) : Rho → RE (List PyData) := fun ρ => (g ρ).bind fun d => R.of (seqD d)
def rngD (lo hi : Int) : List PyData := (List.range (hi - lo).toNat).map fun (i : Nat) => .int (lo + (i : Int))
def smallI (i : Int) : Bool := decide (-1000000 ≤ i ∧ i ≤ 1000000)
theorem smallI_ok {i : Int} (h : smallI i = true) : -(2 ^ 62) ≤ i ∧ i < 2 ^ 62 := by
  have := of_decide_eq_true h
  omega
def dRng1 (g : Rho → RE PyData) : Rho → RE (List PyData) := fun ρ => (g ρ).bind fun d => match d with
  | .int i => if smallI i then .ok (rngD 0 i) else .bad
  | _ => .bad
def dRng2 (g h : Rho → RE PyData) : Rho → RE (List PyData) := fun ρ => (g ρ).bind fun d => (h ρ).bind fun e => match d, e with
  | .int i, .int j => if smallI i && smallI j then .ok (rngD i j) else .bad
  | _, _ => .bad
section
variable {X : Cx} {tg : Expr}
theorem pi_seq {l : Expr} {tl : TE} (hl : PE X l tl) : PI X tg l (fun σ H R => tl σ H fun x H1 => (∃ a, x = .ref a ∧ (∃ xs, SqL X.K H1 a xs) ∧ R (Itl X.K a) H1) ∨ (∃ a, x = .ref a ∧ (∃ xs, SqT X.K H1 a xs) ∧ R (Itt X.K a) H1)) := by
  refine ⟨fun pins s σ H R I h => ?_⟩
  refine thn (hl.run pins s σ H _ I h) fun v s1 ⟨x, H1, I1, r1, q1⟩ => ?_
  rcases q1 with ⟨a, e, ⟨xs, hq⟩, q⟩ | ⟨a, e, ⟨xs, hq⟩, q⟩
  · subst e
    cases r1
    obtain ⟨its, rv, p, hz⟩ := I1.list hq
    refine wpAny_pyIter_list p.isList ?_
    refine ⟨s1.heap.objs.size, [s1.heap.objs.size], _, _, H1, rfl, I1.kept (t' := s1.toks) fun b o e => Heap.get?_push_of_some _ e, turn_list a _, ⟨_, Heap.get?_push_size _ rfl, rfl, rfl⟩, fun b hb => ?_, q⟩
    have e : b = s1.heap.objs.size := by simpa using hb
    subst e
    exact I1.fpOk (Nat.le_refl _) (I1.hok.fresh (Nat.le_refl _))
  · subst e
    cases r1
    obtain ⟨its, rv, p, hz⟩ := I1.tuple hq
    refine wpAny_pyIter_tuple (show s1.heap.IsTuple a its.toArray from p) ?_
    refine ⟨s1.heap.objs.size, [s1.heap.objs.size], _, _, H1, rfl, I1.kept (t' := s1.toks) fun b o e => Heap.get?_push_of_some _ e, turn_tuple a _, ⟨_, Heap.get?_push_size _ rfl, rfl, rfl⟩, fun b hb => ?_, q⟩
    have e : b = s1.heap.objs.size := by simpa using hb
    subst e
    exact I1.fpOk (Nat.le_refl _) (I1.hok.fresh (Nat.le_refl _))
end
theorem itl_ok {K : PySem.W.Frag} {F H : Hp} {a : Addr} {vs : List V} {ds : List PyData} (h : SqL K H a vs) (hd : DqAll K F vs ds) : ItOk K F H (Itl K a) ds := fun i Fi Hi h1 h2 h3 => by
  have hs := h2.seq h
  refine ⟨fun hl => ⟨vs, hs, by rw [dpa_length hd]; exact hl⟩, fun d hdd => ?_⟩
  obtain ⟨v, hv, hdv⟩ := dpa_get hd hdd
  refine ⟨⟨vs, v, hs, hv⟩, fun x H' hy => ?_⟩
  obtain ⟨rfl, hy⟩ := hy
  have e := hy vs hs
  rw [hv] at e; cases e
  exact ⟨Fi, .refl h3, dp_mono h1 hdv⟩
theorem itt_ok {K : PySem.W.Frag} {F H : Hp} {a : Addr} {vs : List V} {ds : List PyData} (h : SqT K H a vs) (hd : DqAll K F vs ds) : ItOk K F H (Itt K a) ds := fun i Fi Hi h1 h2 h3 => by
  have hs := sqt_mono h2 h
  refine ⟨fun hl => ⟨vs, hs, by rw [dpa_length hd]; exact hl⟩, fun d hdd => ?_⟩
  obtain ⟨v, hv, hdv⟩ := dpa_get hd hdd
  refine ⟨⟨vs, v, hs, hv⟩, fun x H' hy => ?_⟩
  obtain ⟨rfl, hy⟩ := hy
  have e := hy vs hs
  rw [hv] at e; cases e
  exact ⟨Fi, .refl h3, dp_mono h1 hdv⟩
theorem rngD_length (lo hi : Int) : (rngD lo hi).length = (hi - lo).toNat := by unfold rngD; rw [List.length_map, List.length_range]
theorem itr_ok {K : PySem.W.Frag} {F H : Hp} {lo hi : Int} : ItOk K F H (Itr lo (hi - lo).toNat) (rngD lo hi) := fun i Fi Hi h1 h2 h3 => by
  refine ⟨fun hl => by rw [rngD_length] at hl; exact hl, fun d hdd => ?_⟩
  have hi' : i < (hi - lo).toNat := by
    have q := (List.getElem?_eq_some_iff.mp hdd).1
    rw [rngD_length] at q
    exact q
  refine ⟨hi', fun x H' hy => ?_⟩
  obtain ⟨rfl, rfl⟩ := hy
  unfold rngD at hdd
  rw [List.getElem?_map, List.getElem?_range hi'] at hdd
  cases hdd
  exact ⟨Fi, .refl h3, .int _⟩
section
variable {X : Cx} {xc : Nat → Addr} {W : WX} {k : Kd} {e a b c tg : Expr} {es : List Expr} {g ga gb gc : Rho → RE PyData} {gs : Rho → RE (List PyData)} {n : Nat} {pos p : Pos}
theorem dif_seq (h : DE X xc W kF e g) : DIF X xc W tg e (dSeq g) := PI.imp (pi_seq h) fun σ H RR ⟨F0, H0, ρ, F, r, hb, hq, hx⟩ => by
  refine eC.go r hb hx fun d ed v F1 H1 x1 r1 k1 hb1 hx1 => ?_
  obtain ⟨z, ez⟩ := R.of_ne_bad hb1
  have eq : dSeq g ρ = .ok z := by show (g ρ).bind _ = _; rw [ed, R.bind_ok, ez]; rfl
  unfold seqD at ez
  split at ez
  · cases ez
    cases k1 with
    | lst h1 h2 => exact .inl ⟨_, rfl, ⟨_, r1.same.seq h1⟩, hq _ eq _ F1 H1 x1 (itl_ok h1 h2)⟩
  · cases ez
    cases k1 with
    | tup h1 h2 => exact .inr ⟨_, rfl, ⟨_, (sqn_mono r1.same h1).sq⟩, hq _ eq _ F1 H1 x1 (itt_ok h1.sq h2)⟩
  · cases ez
theorem die_seq (h : DE X xc W kE e g) : DIE X xc W tg e (dSeq g) := PI.imp (pi_seq h) fun σ H RR ⟨F0, H0, ρ, F, r, hb, hq, hx⟩ => by
  refine eC.go r hb hx fun d ed v F1 H1 x1 r1 k1 hb1 hx1 => ?_
  obtain ⟨z, ez⟩ := R.of_ne_bad hb1
  have eq : dSeq g ρ = .ok z := by show (g ρ).bind _ = _; rw [ed, R.bind_ok, ez]; rfl
  unfold seqD at ez
  split at ez
  · cases ez
    obtain ⟨a, vs, rfl, h1, h2⟩ := k1.lst r1.same
    exact .inl ⟨_, rfl, ⟨_, h1⟩, hq _ eq _ F1 H1 x1 (itl_ok h1 h2)⟩
  · cases ez
    obtain ⟨a, vs, rfl, h1, h2⟩ := k1.tup r1.same
    exact .inr ⟨_, rfl, ⟨_, (sqn_mono r1.same h1).sq⟩, hq _ eq _ F1 H1 x1 (itt_ok (sqn_mono r1.same h1).sq h2)⟩
  · cases ez
theorem di_if {gs : Rho → RE (List PyData)} (h : DIF X xc W tg e gs) : DIE X xc W tg e gs := PI.imp h fun σ H RR ⟨F0, H0, ρ, F, r, hb, hq, hx⟩ => ⟨F0, H0, ρ, F, r, hb, fun ds ed J F2 H2 x h => hq ds ed J F2 H2 x fun i Fi Hi h1 h2 h3 => h i Fi Hi h1 (x.fh.trans h2 |> fun _ => (h1.trans h3)) h3, hx⟩
theorem dif_rng1 (hg : Gl X "range") (hm : X.mg "range" = none) (h : DE X xc W kE a g) (hs : starEach [a] X.env = [(false, eval a X.env)] := by rfl) (hst : starEach [a] X.env = (false, eval a X.env) :: starEach [] X.env := by rfl) : DIF X xc W tg (.Call (.Name "range" p) [a] [] pos) (dRng1 g) := PI.imp (pi_range1 hg hm (pa_cons h pa_nil hst) hs) fun σ H RR ⟨F0, H0, ρ, F, r, hb, hq, hx⟩ => by
  refine eC.go r hb hx fun d ed v F1 H1 x1 r1 k1 hb1 hx1 => ?_
  cases d with
  | int i =>
    cases hs : smallI i with
    | true =>
      have eq : dRng1 g ρ = .ok (rngD 0 i) := by
        show (g ρ).bind _ = _
        rw [ed, R.bind_ok]
        show (if smallI i = true then _ else _) = _
        rw [if_pos hs]
      have e0 : (i - 0).toNat = i.toNat := by rw [Int.sub_zero]
      have q := hq _ eq (Itr 0 (i - 0).toNat) F1 H1 x1 itr_ok
      rw [e0] at q
      exact ⟨i, by rw [k1.int], (smallI_ok hs).1, (smallI_ok hs).2, q⟩
    | false =>
      dsimp only at hb1
      rw [hs] at hb1
      exact absurd rfl hb1
  | _ => exact absurd rfl hb1
theorem dif_rng2 (hg : Gl X "range") (hm : X.mg "range" = none) (h : DE X xc W kE a ga) (h2 : DE X xc W kE b gb) (hs : starEach [a, b] X.env = [(false, eval a X.env), (false, eval b X.env)] := by rfl) (hs2 : starEach [b] X.env = [(false, eval b X.env)] := by rfl)
    (hst : starEach [a, b] X.env = (false, eval a X.env) :: starEach [b] X.env := by rfl) (hst2 : starEach [b] X.env = (false, eval b X.env) :: starEach [] X.env := by rfl) : DIF X xc W tg (.Call (.Name "range" p) [a, b] [] pos) (dRng2 ga gb) := PI.imp (pi_range2 hg hm (pa_cons h (pa_cons h2 pa_nil hst2) hst) hs hs2) fun σ H RR ⟨F0, H0, ρ, F, r, hb, hq, hx⟩ => by
  refine eC.go r hb hx fun d ed v F1 H1 x1 r1 k1 hb1 hx1 => ?_
  refine eC.go r1 hb1 hx1 fun d2 ed2 v2 F2 H2 x2 r2 k2 hb2 hx2 => ?_
  cases d with
  | int i =>
    cases d2 with
    | int j =>
      cases hs : smallI i && smallI j with
      | true =>
        have eq : dRng2 ga gb ρ = .ok (rngD i j) := by
          show (ga ρ).bind _ = _
          rw [ed, R.bind_ok, ed2, R.bind_ok]
          show (if (smallI i && smallI j) = true then _ else _) = _
          rw [if_pos hs]
        have hs' := Bool.and_eq_true_iff.mp hs
        exact ⟨i, j, by rw [(k1.step x2).int, k2.int], ⟨(smallI_ok hs'.1).1, (smallI_ok hs'.1).2, (smallI_ok hs'.2).1, (smallI_ok hs'.2).2⟩, hq _ eq _ F2 H2 (x1.trans x2) itr_ok⟩
      | false =>
        dsimp only at hb2
        rw [hs] at hb2
        exact absurd rfl hb2
    | _ => exact absurd rfl hb2
  | _ => exact absurd rfl hb2
end
end VS
end
section
set_option Elab.async false
set_option linter.all false
set_option maxRecDepth 100000
set_option autoImplicit false
namespace VS
open PySem PySem.Spec PyProof.Rows L2

/-! ### targets -/
def GOk (K : PySem.W.Frag) (g : TG) (b : PyData → Rho → Option Rho) : Prop := ∀ (F0 H0 : Hp) (ρ : Rho) (σ : L2.St) (F H : Hp) (v : V) (d : PyData) (ρ' : Rho) (Q : L2.St → Hp → Prop),
  SRel K F0 H0 ρ σ F H → Dq K F v d → b d ρ = some ρ' → (∀ σ', SRel K F0 H0 ρ' σ' F H → Q σ' H) → g v σ H Q
def dTg1 (i : Nat) : PyData → Rho → Option Rho := fun d ρ => some (ρ.set i (some (.fr d)))
def setsR : List Nat → List PyData → Rho → Option Rho
  | [], [], ρ => some ρ
  | i :: is, d :: ds, ρ => setsR is ds (ρ.set i (some (.fr d)))
  | _, _, _ => none
def dTgN (is : List Nat) : PyData → Rho → Option Rho := fun d ρ => match d with
  | .tuple ds => setsR is ds ρ
  | _ => none
def gsOf : List Nat → TGs
  | [] => gNil
  | i :: is => gCons (gName i) (gsOf is)
theorem gok_1 {K : PySem.W.Frag} {i : Nat} : GOk K (gName i) (dTg1 i) := fun F0 H0 ρ σ F H v d ρ' Q r h e q => by
  cases e
  exact q _ (r.setF h)
theorem gsOf_ok {K : PySem.W.Frag} {F0 H0 F H : Hp} {Q : L2.St → Hp → Prop} {ρ' : Rho} : ∀ (is : List Nat) (vs : List V) (ds : List PyData) (ρ : Rho) (σ : L2.St), SRel K F0 H0 ρ σ F H → DqAll K F vs ds → setsR is ds ρ = some ρ' → (∀ σ', SRel K F0 H0 ρ' σ' F H → Q σ' H) → gsOf is vs σ H Q
  | [], _, _, ρ, σ, r, .nil, e, q => by
    cases e
    exact ⟨rfl, q _ r⟩
  | [], _, _, _, _, _, .cons _ _, e, _ => by cases e
  | i :: is, _, _, _, _, _, .nil, e, _ => by cases e
  | i :: is, _, _, ρ, σ, r, .cons h t, e, q => ⟨_, _, rfl, gsOf_ok is _ _ _ _ (r.setF h) t e q⟩
theorem setsR_len : ∀ {is : List Nat} {ds : List PyData} {ρ ρ' : Rho}, setsR is ds ρ = some ρ' → ds.length = is.length
  | [], [], _, _, _ => rfl
  | [], _ :: _, _, _, h => by cases h
  | _ :: _, [], _, _, h => by cases h
  | _ :: is, _ :: ds, _, _, h => by rw [List.length_cons, List.length_cons, setsR_len (is := is) h]
theorem gok_N {K : PySem.W.Frag} {is : List Nat} {n : Nat} (hn : is.length = n := by rfl) : GOk K (gTup K n (gsOf is)) (dTgN is) := fun F0 H0 ρ σ F H v d ρ' Q r h e q => by
  unfold dTgN at e
  split at e
  · cases h with
    | tup h1 h2 =>
      have hl := setsR_len e
      exact ⟨_, _, rfl, (sqn_mono r.same h1).sq, by rw [dpa_length h2, hl, hn], gsOf_ok is _ _ ρ σ r h2 e q⟩
  · cases e

/-! ### statements -/
inductive Fl where
  | nx (ρ : Rho) | rt (d : PyData) | ry (d : PyData) (ρ : Rho)
abbrev RS := R (Exc × Rho) Fl
/-- what is wanted behind a statement that ends as r says -/
structure Good (K : PySem.W.Frag) (xc : Nat → Addr) (W : WX) (D : Ends) (F0 H0 F : Hp) (r : RS) : Prop where
  nb : r ≠ .bad
  nx : ∀ ρ', r = .ok (.nx ρ') → ∀ σ' F' H', Same F F' → SRel K F0 H0 ρ' σ' F' H' → D.nx σ' H'
  rt : ∀ d, r = .ok (.rt d) → ∀ v F' H', Fz F0 H0 F' H' → Dq K F' v d → D.rt v H'
  ex : ∀ x ρ', r = .ex (x, ρ') → ∀ cls dd σ' F' H', Same F F' → SRel K F0 H0 ρ' σ' F' H' → XOk K xc F' H' x cls dd → W cls dd σ' H'
  ry : ∀ d ρ', r = .ok (.ry d ρ') → ∀ v σ' F' H', Same F F' → SRel K F0 H0 ρ' σ' F' H' → Dq K F' v d → D.rt v H'
theorem Good.mono {K : PySem.W.Frag} {xc : Nat → Addr} {W : WX} {D : Ends} {F0 H0 F F2 : Hp} {r : RS} (g : Good K xc W D F0 H0 F r) (e : Same F F2) : Good K xc W D F0 H0 F2 r :=
  ⟨g.nb, fun ρ' h σ' F' H' s => g.nx ρ' h σ' F' H' (e.trans s), g.rt, fun x ρ' h cls dd σ' F' H' s => g.ex x ρ' h cls dd σ' F' H' (e.trans s), fun d ρ' h v σ' F' H' s => g.ry d ρ' h v σ' F' H' (e.trans s)⟩
def sC (K : PySem.W.Frag) (xc : Nat → Addr) (W : WX) (g : Rho → RS) : TS := fun D σ H => ∃ F0 H0 ρ F, SRel K F0 H0 ρ σ F H ∧ Good K xc W D F0 H0 F (g ρ)
abbrev DS (X : Cx) (xc : Nat → Addr) (W : WX) (sts : List Stmt) (g : Rho → RS) : Prop := PSs X sts (sC X.K xc W g)
abbrev DS1 (X : Cx) (xc : Nat → Addr) (W : WX) (st : Stmt) (g : Rho → RS) : Prop := PS X st (sC X.K xc W g)
/-- an expression's worth, then the rest -/
def stE {α : Type} (g : Rho → RE α) (f : α → Rho → RS) : Rho → RS := fun ρ => match g ρ with
  | .ok a => f a ρ
  | .ex x => .ex (x, ρ)
  | .bad => .bad
def dNx : Rho → RS := fun ρ => .ok (.nx ρ)
def dThen (g h : Rho → RS) : Rho → RS := fun ρ => (g ρ).bind fun f => match f with
  | .nx ρ' => h ρ'
  | .rt d => .ok (.rt d)
  | .ry d ρ' => .ok (.ry d ρ')
section
variable {K : PySem.W.Frag} {xc : Nat → Addr} {W : WX} {k : Kd} {g : Rho → RE PyData} {gt : Rho → RE Bool} {gi : Rho → RE (List PyData)} {D : Ends} {F0 H0 F H : Hp} {ρ : Rho} {σ : L2.St}
theorem eC.st {f : PyData → Rho → RS} {Q : VK} (r : SRel K F0 H0 ρ σ F H) (hg : Good K xc W D F0 H0 F (stE g f ρ)) (h : ∀ d, ∀ v F2 H2, Fz F H F2 H2 → SRel K F0 H0 ρ σ F2 H2 → k K F H F2 H2 v d → Good K xc W D F0 H0 F2 (f d ρ) → Q v H2) : eC K xc W k g σ H Q := by
  unfold stE at hg
  refine ⟨F0, H0, ρ, F, r, fun z => hg.nb (by rw [z]), fun d e v F2 H2 x kk => ?_, fun x e cls dd F2 H2 z q => ?_⟩
  · rw [e] at hg
    exact h d v F2 H2 x (r.step x) kk (hg.mono x.ff)
  · rw [e] at hg
    exact hg.ex x ρ rfl cls dd σ F2 H2 z.ff (r.step z) q
theorem tC'.st {f : Bool → Rho → RS} {Q : Bool → Hp → Prop} (r : SRel K F0 H0 ρ σ F H) (hg : Good K xc W D F0 H0 F (stE gt f ρ)) (h : ∀ d, ∀ F2 H2, Fz F H F2 H2 → SRel K F0 H0 ρ σ F2 H2 → Good K xc W D F0 H0 F2 (f d ρ) → Q d H2) : tC' K xc W gt σ H Q := by
  unfold stE at hg
  refine ⟨F0, H0, ρ, F, r, fun z => hg.nb (by rw [z]), fun d e F2 H2 x => ?_, fun x e cls dd F2 H2 z q => ?_⟩
  · rw [e] at hg
    exact h d F2 H2 x (r.step x) (hg.mono x.ff)
  · rw [e] at hg
    exact hg.ex x ρ rfl cls dd σ F2 H2 z.ff (r.step z) q
theorem iF.st {f : List PyData → Rho → RS} {Q : It → Hp → Prop} (r : SRel K F0 H0 ρ σ F H) (hg : Good K xc W D F0 H0 F (stE gi f ρ)) (h : ∀ ds, ∀ J F2 H2, Fz F H F2 H2 → SRel K F0 H0 ρ σ F2 H2 → ItOk K F2 F2 J ds → Good K xc W D F0 H0 F2 (f ds ρ) → Q J H2) : iF K xc W gi σ H Q := by
  unfold stE at hg
  refine ⟨F0, H0, ρ, F, r, fun z => hg.nb (by rw [z]), fun d e J F2 H2 x kk => ?_, fun x e cls dd F2 H2 z q => ?_⟩
  · rw [e] at hg
    exact h d J F2 H2 x (r.step x) kk (hg.mono x.ff)
  · rw [e] at hg
    exact hg.ex x ρ rfl cls dd σ F2 H2 z.ff (r.step z) q
end
def dIfS (t : Rho → RE Bool) (g h : Rho → RS) : Rho → RS := stE t fun b ρ => cond b (g ρ) (h ρ)
def dSet (i : Nat) (g : Rho → RE PyData) : Rho → RS := stE g fun d ρ => .ok (.nx (ρ.set i (some (.fr d))))
def dSetN (i : Nat) (g : Rho → RE PyData) : Rho → RS := stE g fun d ρ => match d with
  | .list ds => .ok (.nx (ρ.set i (some (.ow ds))))
  | _ => .bad
def dExp (g : Rho → RE PyData) : Rho → RS := stE g fun _ ρ => .ok (.nx ρ)
def dRet (g : Rho → RE PyData) : Rho → RS := stE g fun d _ => .ok (.rt d)
/-- return x, x perhaps one's own list -/
def dRetV (i : Nat) : Rho → RS := fun ρ => match ρ[i]? with
  | some (some (.fr d)) => .ok (.rt d)
  | some (some (.ow ds)) => .ok (.rt (.list ds))
  | _ => .bad
/-- x = y, y one's own list: frozen from here on -/
def dMove (i j : Nat) : Rho → RS := fun ρ => match ρ[j]? with
  | some (some (.ow ds)) => .ok (.nx ((ρ.set j (some (.fr (.list ds)))).set i (some (.fr (.list ds)))))
  | _ => .bad
section
variable {X : Cx} {xc : Nat → Addr} {W : WX} {k : Kd} {e a b c tg : Expr} {es : List Expr} {g ga gb gc : Rho → RE PyData} {gt : Rho → RE Bool} {gs : Rho → RE (List PyData)} {s1 s2 : Rho → RS} {n i j : Nat} {pos p : Pos} {st : Stmt} {sts : List Stmt}
theorem ds_nil : DS X xc W [] dNx := PSs.imp pss_nil fun D σ H ⟨F0, H0, ρ, F, r, hg⟩ => hg.nx ρ rfl σ F H (.refl _) r
theorem ds_cons (h1 : DS1 X xc W st s1) (h2 : DS X xc W sts s2) : DS X xc W (st :: sts) (dThen s1 s2) := PSs.imp (pss_cons h1 h2) fun D σ H ⟨F0, H0, ρ, F, r, hg⟩ => by
  have hg : Good X.K xc W D F0 H0 F ((s1 ρ).bind fun f => match f with | .nx ρ' => s2 ρ' | .rt d => .ok (.rt d) | .ry d ρ' => .ok (.ry d ρ')) := hg
  refine ⟨F0, H0, ρ, F, r, ⟨fun z => ?_, fun ρ' e σ' F' H' sm r' => ?_, fun d e => ?_, fun x ρ' e => ?_, fun d ρ' e => ?_⟩⟩
  · rw [z] at hg; exact hg.nb rfl
  · rw [e] at hg
    exact ⟨F0, H0, ρ', F', r', hg.mono sm⟩
  · rw [e] at hg; exact hg.rt d rfl
  · rw [e] at hg; exact hg.ex x ρ' rfl
  · rw [e] at hg; exact hg.ry d ρ' rfl
theorem ds_one (h1 : DS1 X xc W st s1) : DS X xc W [st] s1 := pss_one h1
theorem ds_pass : DS1 X xc W (.Pass pos) dNx := PS.imp ps_pass fun D σ H ⟨F0, H0, ρ, F, r, hg⟩ => hg.nx ρ rfl σ F H (.refl _) r
theorem ds_setG {te : TE} (h : PS X st (tAsg te (gName i))) (hi : ∀ σ H Q, eC X.K xc W kF g σ H Q → te σ H Q) : DS1 X xc W st (dSet i g) := PS.imp h fun D σ H ⟨F0, H0, ρ, F, r, hg⟩ =>
  hi σ H _ (eC.st r hg fun d v F2 H2 x r2 kk g2 => g2.nx _ rfl _ F2 H2 (.refl _) (r2.setF kk))
theorem ds_setNG {te : TE} (h : PS X st (tAsg te (gName i))) (hi : ∀ σ H Q, eC X.K xc W kN g σ H Q → te σ H Q) : DS1 X xc W st (dSetN i g) := PS.imp h fun D σ H ⟨F0, H0, ρ, F, r, hg⟩ =>
  hi σ H _ (eC.st r hg fun d v F2 H2 x r2 kk g2 => by
    obtain ⟨a, vs, ds, rfl, rfl, h1, h2, h3, h4⟩ := kk
    exact g2.nx _ rfl _ F2 H2 (.refl _) (r.setNew x h1 h2 h3 h4))
theorem ds_set (h : PS X st (tAsg (eC X.K xc W kF g) (gName i))) : DS1 X xc W st (dSet i g) := ds_setG h fun _ _ _ q => q
theorem ds_setN (h : PS X st (tAsg (eC X.K xc W kN g) (gName i))) : DS1 X xc W st (dSetN i g) := ds_setNG h fun _ _ _ q => q
theorem ds_expr (h : PS X st (tDrop (eC X.K xc W kF g))) : DS1 X xc W st (dExp g) := PS.imp h fun D σ H ⟨F0, H0, ρ, F, r, hg⟩ =>
  eC.st r hg fun d v F2 H2 x r2 kk g2 => g2.nx _ rfl _ F2 H2 (.refl _) r2
theorem ds_ret (h : DE X xc W kF e g) : DS1 X xc W (.Return (some e) pos) (dRet g) := PS.imp (ps_ret h) fun D σ H ⟨F0, H0, ρ, F, r, hg⟩ =>
  eC.st r hg fun d v F2 H2 x r2 kk g2 => g2.rt d rfl v F2 H2 r2.fz kk
theorem ds_retV (h : PE X e (tVar i)) : DS1 X xc W (.Return (some e) pos) (dRetV i) := PS.imp (ps_ret h) fun D σ H ⟨F0, H0, ρ, F, r, hg⟩ => by
  have hg : Good X.K xc W D F0 H0 F (match ρ[i]? with | some (some (.fr d)) => .ok (.rt d) | some (some (.ow ds)) => .ok (.rt (.list ds)) | _ => .bad) := hg
  split at hg
  · rename_i d q
    obtain ⟨v, e, h⟩ := r.sl i _ q
    exact ⟨v, e, hg.rt _ rfl v F H r.fz h⟩
  · rename_i ds q
    obtain ⟨a, vs, e, _, _, fz, _, dd⟩ := r.setZ q
    exact ⟨_, e, hg.rt _ rfl _ _ H fz dd⟩
  · exact absurd rfl hg.nb
theorem ds_move (h : PS X st (tAsg (tVar j) (gName i))) : DS1 X xc W st (dMove i j) := PS.imp h fun D σ H ⟨F0, H0, ρ, F, r, hg⟩ => by
  have hg : Good X.K xc W D F0 H0 F (match ρ[j]? with | some (some (.ow ds)) => .ok (.nx ((ρ.set j (some (.fr (.list ds)))).set i (some (.fr (.list ds))))) | _ => .bad) := hg
  split at hg
  · rename_i ds q
    obtain ⟨a, vs, e, _, hf, fz, r2, dd⟩ := r.setZ q
    exact ⟨_, e, hg.nx _ rfl _ _ H (same_upd hf) (r2.setF dd)⟩
  · exact absurd rfl hg.nb
theorem ds_if {sa sb : List Stmt} (ht : DT X xc W c gt) (h1 : DS X xc W sa s1) (h2 : DS X xc W sb s2) : DS1 X xc W (.If c sa sb pos) (dIfS gt s1 s2) := PS.imp (ps_if ht h1 h2) fun D σ H ⟨F0, H0, ρ, F, r, hg⟩ =>
  tC'.st r hg fun d F2 H2 x r2 g2 => by
    cases d with
    | true => rw [if_pos rfl]; exact ⟨F0, H0, ρ, F2, r2, g2⟩
    | false => rw [if_neg Bool.false_ne_true]; exact ⟨F0, H0, ρ, F2, r2, g2⟩
end

/-! ### for -/
def forD (b : PyData → Rho → Option Rho) (body : Rho → RS) : List PyData → Rho → RS
  | [], ρ => .ok (.nx ρ)
  | d :: ds, ρ => match b d ρ with
    | none => .bad
    | some ρ1 => (body ρ1).bind fun f => match f with
      | .nx ρ2 => forD b body ds ρ2
      | .rt z => .ok (.rt z)
      | .ry z ρ2 => .ok (.ry z ρ2)
def dFor (b : PyData → Rho → Option Rho) (gs : Rho → RE (List PyData)) (body : Rho → RS) : Rho → RS := stE gs (forD b body)
section
variable {X : Cx} {xc : Nat → Addr} {W : WX} {e tg : Expr} {gs : Rho → RE (List PyData)} {s1 : Rho → RS} {pos : Pos} {body : List Stmt} {g : TG} {b : PyData → Rho → Option Rho}
theorem ds_for (hp : PassesOwn (model X.prog X.w) X.A X.env X.xe) (hc : X.calm = true) (hi : DIF X xc W tg e gs) (hg : PG X tg g) (hb : GOk X.K g b) (h : DS X xc W body s1) (hs : ∀ x, foldedSetIterable e X.env x = pure x := by intro _; rfl) : DS1 X xc W (.For tg e body [] pos) (dFor b gs s1) := PS.imp (ps_for hp hc hi hg h hs) fun D σ H ⟨F0, H0, ρ, F, r, hgd⟩ =>
  iF.st r hgd fun ds J F2 H2 x r2 it g2 => by
    refine ⟨fun i m σ H => m = ds.length - i ∧ i ≤ ds.length ∧ ∃ ρ Fi, SRel X.K F0 H0 ρ σ Fi H ∧ Same F2 Fi ∧ Good X.K xc W D F0 H0 Fi (forD b s1 (ds.drop i) ρ), ⟨_, rfl, Nat.zero_le _, ρ, F2, r2, .refl _, g2⟩, ?_⟩
    rintro i m σ H ⟨rfl, hil, ρ, Fi, ri, sm, gi⟩
    have io := it i Fi H sm (sm.trans ri.same) ri.same
    by_cases hlt : i < ds.length
    · have hd : ds[i]? = some ds[i] := List.getElem?_eq_getElem hlt
      have hdr : ds.drop i = ds[i] :: ds.drop (i + 1) := List.drop_eq_getElem_cons hlt
      rw [hdr] at gi
      obtain ⟨hgo, hy⟩ := io.2 _ hd
      refine .inr ⟨hgo, fun σ' H' => ∃ ρ' F', SRel X.K F0 H0 ρ' σ' F' H' ∧ Same F2 F' ∧ Good X.K xc W D F0 H0 F' (forD b s1 (ds.drop (i + 1)) ρ'), fun σ' H' hN => ⟨ds.length - (i + 1), by omega, rfl, hlt, hN⟩, fun v H' hyl => ?_⟩
      obtain ⟨F', xy, dv⟩ := hy v H' hyl
      have gi' : Good X.K xc W D F0 H0 Fi (match b ds[i] ρ with | none => .bad | some ρ1 => (s1 ρ1).bind fun f => match f with | .nx ρ2 => forD b s1 (ds.drop (i + 1)) ρ2 | .rt z => .ok (.rt z) | .ry z ρ2 => .ok (.ry z ρ2)) := gi
      cases hbq : b ds[i] ρ with
      | none => rw [hbq] at gi'; exact absurd rfl gi'.nb
      | some ρ1 =>
        rw [hbq] at gi'
        refine hb F0 H0 ρ σ F' H' v _ ρ1 _ (ri.step xy) dv hbq fun σ1 r1 => ?_
        have gi2 : Good X.K xc W D F0 H0 F' ((s1 ρ1).bind fun f => match f with | .nx ρ2 => forD b s1 (ds.drop (i + 1)) ρ2 | .rt z => .ok (.rt z) | .ry z ρ2 => .ok (.ry z ρ2)) := gi'.mono xy.ff
        refine ⟨F0, H0, ρ1, F', r1, ⟨fun z => ?_, fun ρ' e σ' F'' H'' sm'' r'' => ?_, fun d e => ?_, fun xx ρ' e => ?_, fun d ρ' e => ?_⟩⟩
        · rw [z] at gi2; exact gi2.nb rfl
        · rw [e] at gi2
          exact ⟨ρ', F'', r'', (sm.trans xy.ff).trans sm'', gi2.mono sm''⟩
        · rw [e] at gi2; exact gi2.rt d rfl
        · rw [e] at gi2; exact gi2.ex xx ρ' rfl
        · rw [e] at gi2; exact gi2.ry d ρ' rfl
    · have e : i = ds.length := by omega
      subst e
      rw [List.drop_length] at gi
      exact .inl ⟨io.1 (Nat.le_refl _), gi.nx ρ rfl σ Fi H (.refl _) ri⟩
end

/-! ### while, so many turns at most -/
def whileD (t : Rho → RE Bool) (body : Rho → RS) : Nat → Rho → RS
  | 0, _ => .bad
  | n + 1, ρ => match t ρ with
    | .ok true => (body ρ).bind fun f => match f with
      | .nx ρ2 => whileD t body n ρ2
      | .rt z => .ok (.rt z)
      | .ry z ρ2 => .ok (.ry z ρ2)
    | .ok false => .ok (.nx ρ)
    | .ex x => .ex (x, ρ)
    | .bad => .bad
section
variable {X : Cx} {xc : Nat → Addr} {W : WX} {c : Expr} {gt : Rho → RE Bool} {s1 : Rho → RS} {pos : Pos} {body : List Stmt}
theorem ds_while (n : Nat) (hp : PassesOwn (model X.prog X.w) X.A X.env X.xe) (ht : DT X xc W c gt) (h : DS X xc W body s1) : DS1 X xc W (.While c body [] pos) (whileD gt s1 n) := PS.imp (ps_while hp ht h) fun D σ H ⟨F0, H0, ρ, F, r, hgd⟩ => by
  refine ⟨fun m σ H => ∃ ρ F, SRel X.K F0 H0 ρ σ F H ∧ Good X.K xc W D F0 H0 F (whileD gt s1 m ρ), ⟨n, ρ, F, r, hgd⟩, ?_⟩
  rintro m σ H ⟨ρ, F, r, gm⟩
  cases m with
  | zero => exact absurd rfl gm.nb
  | succ m =>
    have gm' : Good X.K xc W D F0 H0 F (stE gt (fun b ρ => cond b ((s1 ρ).bind fun f => match f with | .nx ρ2 => whileD gt s1 m ρ2 | .rt z => .ok (.rt z) | .ry z ρ2 => .ok (.ry z ρ2)) (.ok (.nx ρ))) ρ) := by
      have e : whileD gt s1 (m + 1) ρ = stE gt (fun b ρ => cond b ((s1 ρ).bind fun f => match f with | .nx ρ2 => whileD gt s1 m ρ2 | .rt z => .ok (.rt z) | .ry z ρ2 => .ok (.ry z ρ2)) (.ok (.nx ρ))) ρ := by
        show (match gt ρ with | .ok true => _ | .ok false => _ | .ex x => _ | .bad => _) = _
        unfold stE
        cases gt ρ with
        | ok b => cases b <;> rfl
        | ex x => rfl
        | bad => rfl
      rw [← e]; exact gm
    refine tC'.st r gm' fun d F2 H2 x r2 g2 => ?_
    cases d with
    | true =>
      rw [if_pos rfl]
      refine ⟨fun σ' H' => ∃ ρ' F', SRel X.K F0 H0 ρ' σ' F' H' ∧ Good X.K xc W D F0 H0 F' (whileD gt s1 m ρ'), fun σ' H' hN => ⟨m, Nat.lt_succ_self _, hN⟩, ?_⟩
      have g3 : Good X.K xc W D F0 H0 F2 ((s1 ρ).bind fun f => match f with | .nx ρ2 => whileD gt s1 m ρ2 | .rt z => .ok (.rt z) | .ry z ρ2 => .ok (.ry z ρ2)) := g2
      refine ⟨F0, H0, ρ, F2, r2, ⟨fun z => ?_, fun ρ' e σ' F'' H'' sm'' r'' => ?_, fun d e => ?_, fun xx ρ' e => ?_, fun d ρ' e => ?_⟩⟩
      · rw [z] at g3; exact g3.nb rfl
      · rw [e] at g3
        exact ⟨ρ', F'', r'', g3.mono sm''⟩
      · rw [e] at g3; exact g3.rt d rfl
      · rw [e] at g3; exact g3.ex xx ρ' rfl
      · rw [e] at g3; exact g3.ry d ρ' rfl
    | false =>
      rw [if_neg Bool.false_ne_true]
      exact g2.nx ρ rfl σ F2 H2 (.refl _) r2
end
end VS
end
section
set_option Elab.async false
set_option linter.all false
set_option maxRecDepth 100000
set_option autoImplicit false
namespace VS
open PySem PySem.Spec PyProof.Rows L2

/-! ### comprehensions -/
def W0 : WX := fun _ _ _ _ => False
def noEx {α : Type} : RE α → RE α
  | .ok a => .ok a
  | _ => .bad
def wipeR (ρ : Rho) : List Nat → Rho
  | [] => ρ
  | v :: vs => (wipeR ρ vs).set v none
def lcD (b : PyData → Rho → Option Rho) (t : Rho → RE Bool) (e : Rho → RE PyData) (ρ : Rho) : List PyData → RE (List PyData)
  | [] => .ok []
  | d :: ds => match b d ρ with
    | none => .bad
    | some ρ1 => (noEx (t ρ1)).bind fun c => cond c ((noEx (e ρ1)).bind fun y => (lcD b t e ρ ds).bind fun ys => .ok (y :: ys)) (lcD b t e ρ ds)
def dLc (vs : List Nat) (b : PyData → Rho → Option Rho) (gs : Rho → RE (List PyData)) (t : Rho → RE Bool) (e : Rho → RE PyData) : Rho → RE PyData := fun ρ => (gs ρ).bind fun ds =>
  if ds.length ≤ lim then (lcD b t e (wipeR ρ vs) ds).bind fun ys => .ok (.list ys) else .bad
theorem SRel.wipe {K : PySem.W.Frag} {F0 H0 F H : Hp} {ρ : Rho} {σ : L2.St} (r : SRel K F0 H0 ρ σ F H) : ∀ vs : List Nat, SRel K F0 H0 (wipeR ρ vs) (L2.wipe σ vs) F H
  | [] => r
  | v :: vs => (SRel.wipe r vs).setN
/-- an object that no slot holds is changed -/
theorem SRel.other {K : PySem.W.Frag} {F0 H0 F H : Hp} {ρ : Rho} {σ : L2.St} {D : Addr} {o : HO} (r : SRel K F0 H0 ρ σ F H) (h0 : H0 D = none) (hf : F D = none) (hs : ∀ (i : Nat) (ds : List PyData), ρ[i]? = some (some (.ow ds)) → σ[i]? ≠ some (some (.ref D))) (ht : ∀ (i : Nat) (kvs : List (Int × Int)), ρ[i]? = some (some (.dc kvs)) → σ[i]? ≠ some (some (.ref D)))
    (hq : ∀ (j : Nat) (t : Cp) (b : Addr) (cs : List Addr), ρ[j]? = some (some (.cp t)) → σ[j]? = some (some (.ref b)) → CpOk K F H b cs t → D ∉ cs) (hni : ∀ C dx fs, H D ≠ some (.ins C dx fs)) : SRel K F0 H0 ρ σ F (upd H D o) := by
  refine ⟨⟨r.fz.ff, same_upd_mut r.fz.hh h0, same_upd_mut r.same hf, r.fz.nw⟩, r.ln, fun i sv e => ?_, r.df, r.dj.heap fun i t a h1 h2 => ?_⟩
  case refine_2 =>
    obtain ⟨b, cs, e, _, g, _⟩ := r.sl i _ h1
    rw [h2] at e; cases e
    exact ⟨cs, g, upd_ne (g.ne (hq i t a cs h1 h2 g) hni)⟩
  have z := r.sl i sv e
  cases sv with
  | cp t =>
    obtain ⟨a, cs, e1, h1, g, ga⟩ := z
    exact ⟨a, cs, e1, h1, g.mv (upd_ne (g.ne (hq i t a cs e e1 g) hni)) (fun x hx => upd_ne fun (w : x = D) => hq i t a cs e e1 g (w ▸ hx)) (.refl _), ga⟩
  | pr p => exact z
  | fr d => exact z
  | sh ds => exact z
  | ob a => exact z
  | dc kvs =>
    obtain ⟨a, e1, h1, h2, h3⟩ := z
    have na : a ≠ D := fun q => ht i kvs e (by rw [e1, q])
    exact ⟨a, e1, h1, h2, by rw [upd_ne na]; exact h3⟩
  | ow ds =>
    obtain ⟨a, vs, e1, h1, h2, h3, h4⟩ := z
    have na : a ≠ D := fun q => hs i ds e (by rw [e1, q])
    exact ⟨a, vs, e1, h1, h2, by rw [upd_ne na]; exact h3, h4⟩
/-- the target's slots are among those forgotten -/
def GW (g : TG) (vs : List Nat) : Prop := ∀ (v : V) (σ : L2.St) (H : Hp) (Q : L2.St → Hp → Prop), g v (L2.wipe σ vs) H Q → g v (L2.wipe σ vs) H fun σ2 H2 => L2.wipe σ2 vs = L2.wipe σ vs ∧ Q σ2 H2
theorem wipe_get {σ : L2.St} : ∀ (vs : List Nat) (i : Nat), (L2.wipe σ vs)[i]? = if i ∈ vs then (σ[i]?).map fun _ => none else σ[i]?
  | [], i => by simp [L2.wipe]
  | v :: vs, i => by
    unfold L2.wipe
    by_cases e : v = i
    · subst e
      rw [if_pos List.mem_cons_self, List.getElem?_set]
      rw [if_pos rfl]
      by_cases hl : v < (L2.wipe σ vs).length
      · rw [if_pos hl]
        rw [wipe_length] at hl
        rw [List.getElem?_eq_getElem hl]; rfl
      · rw [if_neg hl]
        rw [wipe_length] at hl
        rw [List.getElem?_eq_none (by omega)]; rfl
    · rw [List.getElem?_set_ne e, wipe_get vs i]
      have e' : ¬ i = v := fun z => e z.symm
      simp [e']
theorem wipe_set {σ : L2.St} {vs : List Nat} {i : Nat} {x : Option V} (h : i ∈ vs) : L2.wipe (σ.set i x) vs = L2.wipe σ vs := by
  apply List.ext_getElem?
  intro j
  rw [wipe_get, wipe_get]
  by_cases e : i = j
  · subst e
    rw [if_pos h, if_pos h, List.getElem?_set, if_pos rfl]
    by_cases hl : i < σ.length
    · rw [if_pos hl, List.getElem?_eq_getElem hl]; rfl
    · rw [if_neg hl, List.getElem?_eq_none (by omega)]
  · rw [List.getElem?_set_ne e]
theorem wipe_wipe {σ : L2.St} {vs : List Nat} : L2.wipe (L2.wipe σ vs) vs = L2.wipe σ vs := by
  apply List.ext_getElem?
  intro j
  rw [wipe_get, wipe_get]
  by_cases h : j ∈ vs
  · rw [if_pos h, if_pos h]
    cases σ[j]? <;> rfl
  · rw [if_neg h, if_neg h]
theorem gw_1 {i : Nat} {vs : List Nat} (h : i ∈ vs) : GW (gName i) vs := fun v σ H Q q => ⟨by rw [wipe_set h, wipe_wipe], q⟩
theorem gsOf_w {σ0 : L2.St} {vs : List Nat} {Q : L2.St → Hp → Prop} {H : Hp} : ∀ (is : List Nat) (ws : List V) (σ : L2.St), (∀ i ∈ is, i ∈ vs) → L2.wipe σ vs = L2.wipe σ0 vs → gsOf is ws σ H Q → gsOf is ws σ H fun σ2 H2 => L2.wipe σ2 vs = L2.wipe σ0 vs ∧ Q σ2 H2
  | [], _, σ, _, e, ⟨h, q⟩ => ⟨h, e, q⟩
  | i :: is, _, σ, hm, e, ⟨v, r, h, q⟩ => ⟨v, r, h, gsOf_w is r _ (fun j hj => hm j (List.mem_cons_of_mem _ hj)) (by rw [wipe_set (hm i List.mem_cons_self)]; exact e) q⟩
theorem gw_N {K : PySem.W.Frag} {is : List Nat} {n : Nat} {vs : List Nat} (h : ∀ i ∈ is, i ∈ vs) : GW (gTup K n (gsOf is)) vs := fun v σ H Q ⟨a, xs, h1, h2, h3, q⟩ => ⟨a, xs, h1, h2, h3, gsOf_w is xs _ h wipe_wipe q⟩
theorem wipe_ow {σ : L2.St} {D : Addr} {vs : List Nat} {i : Nat} (h : σ[i]? ≠ some (some (.ref D))) : (L2.wipe σ vs)[i]? ≠ some (some (.ref D)) := fun z => h (wipe_some z).1

theorem lc_imp {K : PySem.W.Frag} {xc : Nat → Addr} {W : WX} {vs : List Nat} {b : PyData → Rho → Option Rho} {gs : Rho → RE (List PyData)} {gt : Rho → RE Bool} {ge : Rho → RE PyData} {g : TG} {σ : L2.St} {H : Hp} {Q : VK} (hb : GOk K g b) (hw : GW g vs) :
    eC K xc W kN (dLc vs b gs gt ge) σ H Q → tLc (iE K xc W gs) g (tC' K xc W0 gt) (eC K xc W0 kF ge) vs σ H Q := fun ⟨F0, H0, ρ, F, r, hbd, hq, hx⟩ => by
  have eD : ∀ x, gs ρ = x → dLc vs b gs gt ge ρ = x.bind fun ds => if ds.length ≤ lim then (lcD b gt ge (wipeR ρ vs) ds).bind fun ys => .ok (.list ys) else .bad := fun x hx => by rw [← hx]; rfl
  refine ⟨F0, H0, ρ, F, r, fun z => hbd (by rw [eD _ z]; rfl), fun ds ed J F2 H1 x it D hD => ?_, fun y ey cls dd F2 H2 z q => hx y (by rw [eD _ ey]; rfl) cls dd F2 H2 z q⟩
  have r1 := r.step x
  have eq := eD _ ed
  rw [R.bind_ok] at eq
  by_cases hl : ds.length ≤ lim
  · rw [if_pos hl] at eq
    cases hall : lcD b gt ge (wipeR ρ vs) ds with
    | bad => rw [hall] at eq; exact absurd eq hbd
    | ex y =>
      exfalso
      have noex : ∀ (l : List PyData) (y : Exc), lcD b gt ge (wipeR ρ vs) l ≠ .ex y := by
        intro l
        induction l with
        | nil => intro y z; cases z
        | cons d l ih =>
          intro y z
          have z' : (match b d (wipeR ρ vs) with | none => R.bad | some ρ1 => (noEx (gt ρ1)).bind fun c => cond c ((noEx (ge ρ1)).bind fun y => (lcD b gt ge (wipeR ρ vs) l).bind fun ys => .ok (y :: ys)) (lcD b gt ge (wipeR ρ vs) l)) = .ex y := z
          cases hbq : b d (wipeR ρ vs) with
          | none => rw [hbq] at z'; cases z'
          | some ρ1 =>
            rw [hbq] at z'
            dsimp only at z'
            cases ht : gt ρ1 with
            | ok c =>
              rw [ht] at z'
              cases c with
              | true =>
                cases he : ge ρ1 with
                | ok w =>
                  rw [he] at z'
                  have z2 : ((lcD b gt ge (wipeR ρ vs) l).bind fun ys => R.ok (w :: ys)) = .ex y := z'
                  cases hr : lcD b gt ge (wipeR ρ vs) l with
                  | ok q => rw [hr] at z2; cases z2
                  | ex q => exact ih q hr
                  | bad => rw [hr] at z2; cases z2
                | ex q => rw [he] at z'; cases z'
                | bad => rw [he] at z'; cases z'
              | false => exact ih y z'
            | ex q => rw [ht] at z'; cases z'
            | bad => rw [ht] at z'; cases z'
      exact noex ds y hall
    | ok all =>
      rw [hall] at eq
      have eq' : dLc vs b gs gt ge ρ = .ok (.list all) := eq
      have f2D : F2 D = none := x.fh.free hD
      have hsl : ∀ (i : Nat) (es : List PyData), (wipeR ρ vs)[i]? = some (some (.ow es)) → (L2.wipe σ vs)[i]? ≠ some (some (.ref D)) := fun i es e z => by
        obtain ⟨a, ws, e1, _, _, h3, _⟩ := (r1.wipe vs).sl i _ e
        rw [e1] at z; cases z
        rw [hD] at h3; cases h3
      have htl : ∀ (i : Nat) (kvs : List (Int × Int)), (wipeR ρ vs)[i]? = some (some (.dc kvs)) → (L2.wipe σ vs)[i]? ≠ some (some (.ref D)) := fun i kvs e z => by
        obtain ⟨a, e1, _, _, h3⟩ := (r1.wipe vs).sl i _ e
        rw [e1] at z; cases z
        rw [hD] at h3; cases h3
      have h0D : H0 D = none := r1.fz.hh.free hD
      refine ⟨fun i m Hi => m = ds.length - i ∧ i ≤ ds.length ∧ ∃ Fi acc done rest, SRel K F0 H0 (wipeR ρ vs) (L2.wipe σ vs) Fi Hi ∧ Fz F2 H1 Fi Hi ∧ Fi D = none ∧ Hi D = some (.lst acc) ∧ DqAll K Fi acc done ∧ acc.length ≤ i ∧
        lcD b gt ge (wipeR ρ vs) (ds.drop i) = .ok rest ∧ done ++ rest = all, ⟨_, rfl, Nat.zero_le _, F2, [], [], all, (r1.wipe vs).other h0D f2D hsl htl ((r1.wipe vs).newp (.refl x.fh) hD) (no_ni hD), ⟨.refl _, same_upd hD, same_upd_mut x.fh f2D, fun _ _ q => .inl q⟩, f2D, upd_same, .nil, Nat.le_refl _, hall, rfl⟩, ?_⟩
      rintro i m Hi ⟨rfl, hil, Fi, acc, done, rest, ri, xi, fD, hDi, da, la, hrest, hcat⟩
      have io := it i Fi Hi xi.ff xi.hh xi.fh
      by_cases hlt : i < ds.length
      · have hd : ds[i]? = some ds[i] := List.getElem?_eq_getElem hlt
        have hdr : ds.drop i = ds[i] :: ds.drop (i + 1) := List.drop_eq_getElem_cons hlt
        rw [hdr] at hrest
        obtain ⟨hgo, hy⟩ := io.2 _ hd
        refine .inr ⟨hgo, fun H' => ∃ Fi acc done rest, SRel K F0 H0 (wipeR ρ vs) (L2.wipe σ vs) Fi H' ∧ Fz F2 H1 Fi H' ∧ Fi D = none ∧ H' D = some (.lst acc) ∧ DqAll K Fi acc done ∧ acc.length ≤ i + 1 ∧
          lcD b gt ge (wipeR ρ vs) (ds.drop (i + 1)) = .ok rest ∧ done ++ rest = all, fun H' hN => ⟨ds.length - (i + 1), by omega, rfl, hlt, hN⟩, fun v H' hyl => ?_⟩
        obtain ⟨F', xy, dv⟩ := hy v H' hyl
        have hrest' : (match b ds[i] (wipeR ρ vs) with | none => R.bad | some ρ1 => (noEx (gt ρ1)).bind fun c => cond c ((noEx (ge ρ1)).bind fun y => (lcD b gt ge (wipeR ρ vs) (ds.drop (i + 1))).bind fun ys => .ok (y :: ys)) (lcD b gt ge (wipeR ρ vs) (ds.drop (i + 1)))) = .ok rest := hrest
        have keepD : ∀ {Fa Ha Fb Hb : Hp}, Fz Fa Ha Fb Hb → Fa D = none → Ha D = some (.lst acc) → Fb D = none ∧ Hb D = some (.lst acc) := fun {Fa Ha Fb Hb} z h1 h2 => by
          refine ⟨?_, z.hh _ _ h2⟩
          cases q : Fb D with
          | none => rfl
          | some o =>
            rcases z.nw D o q with w | w
            · rw [h1] at w; cases w
            · rw [h2] at w; cases w
        cases hbq : b ds[i] (wipeR ρ vs) with
        | none => rw [hbq] at hrest'; cases hrest'
        | some ρ1 =>
          rw [hbq] at hrest'
          dsimp only at hrest'
          refine hw v σ H' _ (hb F0 H0 (wipeR ρ vs) (L2.wipe σ vs) F' H' v _ ρ1 _ (ri.step xy) dv hbq fun σ1 r1' => ?_)
          obtain ⟨fD', hD'⟩ := keepD xy fD hDi
          cases ht : gt ρ1 with
          | bad => rw [ht] at hrest'; cases hrest'
          | ex q => rw [ht] at hrest'; cases hrest'
          | ok c =>
            rw [ht] at hrest'
            refine ⟨F0, H0, ρ1, F', r1', (by rw [ht]; intro z; cases z), fun c' ec F3 H3 x3 => ?_, fun q eq' => by rw [ht] at eq'; cases eq'⟩
            rw [ht] at ec; cases ec
            have r3 := r1'.step x3
            obtain ⟨fD3, hD3⟩ := keepD x3 fD' hD'
            cases c with
            | false =>
              rw [if_neg Bool.false_ne_true]
              exact ⟨F3, acc, done, rest, ri.step (xy.trans x3), (xi.trans xy).trans x3, fD3, hD3, dpa_mono (xy.trans x3).ff da, Nat.le_succ_of_le la, hrest', hcat⟩
            | true =>
              rw [if_pos rfl]
              cases he : ge ρ1 with
              | bad => rw [he] at hrest'; cases hrest'
              | ex q => rw [he] at hrest'; cases hrest'
              | ok y =>
                rw [he] at hrest'
                have hr2 : ((lcD b gt ge (wipeR ρ vs) (ds.drop (i + 1))).bind fun ys => R.ok (y :: ys)) = .ok rest := hrest'
                cases hr : lcD b gt ge (wipeR ρ vs) (ds.drop (i + 1)) with
                | bad => rw [hr] at hr2; cases hr2
                | ex q => rw [hr] at hr2; cases hr2
                | ok rest2 =>
                  rw [hr] at hr2
                  cases hr2
                  refine ⟨F0, H0, ρ1, F3, r3, (by rw [he]; intro z; cases z), fun y' ey w F4 H4 x4 k4 => ?_, fun q eq' => by rw [he] at eq'; cases eq'⟩
                  rw [he] at ey; cases ey
                  obtain ⟨fD4, hD4⟩ := keepD x4 fD3 hD3
                  have xa := ((xi.trans xy).trans x3).trans x4
                  refine ⟨acc, hD4, Nat.lt_of_le_of_lt (Nat.le_trans la hil) (Nat.lt_of_le_of_lt hl (by decide)), F4, acc ++ [w], done ++ [y], rest2, ?_, ⟨xa.ff, same_upd_mut xa.hh hD, same_upd_mut xa.fh fD4, xa.nw⟩, fD4, upd_same, dpa_append (dpa_mono ((xy.trans x3).trans x4).ff da) (.cons k4 .nil), ?_, rfl, ?_⟩
                  · exact (ri.step ((xy.trans x3).trans x4)).other h0D fD4 hsl htl ((r1.wipe vs).newp xa hD) (lst_ni hD4)
                  · rw [List.length_append, List.length_singleton]; omega
                  · rw [List.append_assoc]; exact hcat
      · have e : i = ds.length := by omega
        subst e
        rw [List.drop_length] at hrest
        cases hrest
        rw [List.append_nil] at hcat
        subst hcat
        refine .inl ⟨io.1 (Nat.le_refl _), hq _ eq' _ Fi Hi (x.trans xi) ⟨D, acc, done, rfl, rfl, x.hh.free hD, fD, hDi, da⟩⟩
  · rw [if_neg hl] at eq
    exact absurd eq hbd
def dYes : Rho → RE Bool := fun _ => .ok true
section
variable {X : Cx} {xc : Nat → Addr} {W : WX} {elt tg iter : Expr} {ifs : List Expr} {scope : Scope} {own : List (Str × Nat)} {pos : Pos} {gs : Rho → RE (List PyData)} {gt : Rho → RE Bool} {ge : Rho → RE PyData} {g : TG} {b : PyData → Rho → Option Rho}
theorem PTs.imp {X : Cx} {ifs : List Expr} {t t' : TT} (h : PTs X ifs t) (i : ∀ σ H Q, t' σ H Q → t σ H Q) : PTs X ifs t' := ⟨fun pins s σ H Q I q => h.run pins s σ H Q I (i σ H Q q)⟩
theorem dts_nil : PTs X [] (tC' X.K xc W dYes) := PTs.imp pts_nil fun σ H Q ⟨F0, H0, ρ, F, r, hb, hq, hx⟩ => hq true rfl F H (.refl r.same)
theorem dts_one {c : Expr} (h : DT X xc W c gt) : PTs X [c] (tC' X.K xc W gt) := pts_one h
theorem de_lc (hc : X.calm = true) (hN : X.N.Nodup) (hi : DIE X xc W tg iter gs) (ok : BlkOk X.N X.env.scope scope own)
    (hg : ∀ (s : Shared) (H : Hp) (C : Addr) (cl : List (Str × Addr)) (fp : List Addr), PG (X.blk s H scope (compEnvC scope cl C X.env) fp) tg g) (hb : GOk X.K g b) (hw : GW g (own.map (·.2)))
    (ht : ∀ (s : Shared) (H : Hp) (C : Addr) (cl : List (Str × Addr)) (fp : List Addr), PTs (X.blk s H scope (compEnvC scope cl C X.env) fp) ifs (tC' X.K xc W0 gt))
    (he : ∀ (s : Shared) (H : Hp) (C : Addr) (cl : List (Str × Addr)) (fp : List Addr), PE (X.blk s H scope (compEnvC scope cl C X.env) fp) elt (eC X.K xc W0 kF ge)) (hs : ∀ x, foldedSetIterable iter X.env x = pure x := by intro _; rfl) :
    DE X xc W kN (.ListComp elt [⟨tg, iter, ifs, 0⟩] scope pos) (dLc (own.map (·.2)) b gs gt ge) := PE.imp (pe_lc hc hN hi ok hg ht he hs) fun σ H Q => lc_imp hb hw
theorem ps_lc {i : Nat} {y : Str} {py spos : Pos} (hc : X.calm = true) (hN : X.N.Nodup) (hy : X.N[i]? = some y) (hyl : X.env.scope.names.lookup y = some .local)
    (hsw : swapsWith (.ListComp elt [⟨tg, iter, ifs, 0⟩] scope pos) (some (.Name y py)) spos.line X.env = pure true) (hi : DIE X xc W tg iter gs) (ok : BlkOk X.N X.env.scope scope own)
    (hg : ∀ (s : Shared) (H : Hp) (C : Addr) (cl : List (Str × Addr)) (fp : List Addr), PG (X.blk s H scope (compEnvC scope cl C X.env) fp) tg g) (hb : GOk X.K g b) (hw : GW g (own.map (·.2)))
    (ht : ∀ (s : Shared) (H : Hp) (C : Addr) (cl : List (Str × Addr)) (fp : List Addr), PTs (X.blk s H scope (compEnvC scope cl C X.env) fp) ifs (tC' X.K xc W0 gt))
    (he : ∀ (s : Shared) (H : Hp) (C : Addr) (cl : List (Str × Addr)) (fp : List Addr), PE (X.blk s H scope (compEnvC scope cl C X.env) fp) elt (eC X.K xc W0 kF ge)) (hs : ∀ x, foldedSetIterable iter X.env x = pure x := by intro _; rfl) :
    PS X (.Assign [.Name y py] (.ListComp elt [⟨tg, iter, ifs, 0⟩] scope pos) spos) (tAsg (eC X.K xc W kN (dLc (own.map (·.2)) b gs gt ge)) (gName i)) := PS.imp (ps_setLc hc hN hy hyl hsw hi ok hg ht he hs) fun D σ H q => lc_imp hb hw q
/-- kN to kF under an assignment -/
theorem tAsg_F {st : Stmt} {i : Nat} {g : Rho → RE PyData} (h : PS X st (tAsg (eC X.K xc W kN g) (gName i))) : PS X st (tAsg (eC X.K xc W kF g) (gName i)) := PS.imp h fun D σ H ⟨F0, H0, ρ, F, r, hb, hk, hx⟩ => ⟨F0, H0, ρ, F, r, hb, fun d e v F2 H2 x q => by
  obtain ⟨a, vs, ds, rfl, rfl, h1, h2, h3, h4⟩ := q
  exact hk _ e _ (upd F2 a (.lst vs)) H2 (x.freeze h1 h2 h3) (.lst (SqL.of upd_same) (dpa_mono (same_upd h2) h4)), hx⟩
end
end VS
end
section
set_option Elab.async false
set_option linter.all false
set_option maxRecDepth 100000
set_option autoImplicit false
namespace VS
open PySem PySem.Spec PyProof.Rows L2

/-! ### in, not in -/
section
variable {X : Cx}
def rInU (K : PySem.W.Frag) (neg : Bool) : R2 := fun x y H Q => ∃ d ds, Dp K H x d ∧ Dp K H y (.tuple ds) ∧ SeqAt.shaped d = true ∧ SeqAt.shaped (.list ds) = true ∧ Q (.bl (if neg then !(ds.any fun z => PyData.eqv z d) else ds.any fun z => PyData.eqv z d)) H
theorem op_inU (hu : X.A.units + 65 < cLine) : OpR X (compareOp .In) (rInU X.K false) := by
  intro pins s σ H x y v u Q I rx ry h
  obtain ⟨d, ds, hd, he, sd, se, q⟩ := h
  obtain ⟨as, r1⟩ := Dp.reads I d x v hd rx
  obtain ⟨bs, r2⟩ := Dp.reads I (.tuple ds) y u he ry
  exact SeqAt.in_tuple_reads r2 r1 (SeqAt.canLay_of_shaped se) (SeqAt.canLay_of_shaped sd) (room_in_shaped sd hu) ⟨.bl _, H, I, rfl, q⟩
theorem op_notInU (hu : X.A.units + 65 < cLine) : OpR X (compareOp .NotIn) (rInU X.K true) := by
  intro pins s σ H x y v u Q I rx ry h
  obtain ⟨d, ds, hd, he, sd, se, q⟩ := h
  obtain ⟨as, r1⟩ := Dp.reads I d x v hd rx
  obtain ⟨bs, r2⟩ := Dp.reads I (.tuple ds) y u he ry
  exact SeqAt.notIn_tuple_reads r2 r1 (SeqAt.canLay_of_shaped se) (SeqAt.canLay_of_shaped sd) (room_in_shaped sd hu) ⟨.bl _, H, I, rfl, q⟩
end
def inStr (x y : Str) : Bool := !(Builtin.Str.occurrences y x 0 y.length 1).isEmpty
def inD : PyData → PyData → Option PyData
  | d, .list ds => if SeqAt.shaped d = true ∧ SeqAt.shaped (.list ds) = true then some (.bool (ds.any fun z => PyData.eqv z d)) else none
  | d, .tuple ds => if SeqAt.shaped d = true ∧ SeqAt.shaped (.list ds) = true then some (.bool (ds.any fun z => PyData.eqv z d)) else none
  | .str x, .str y => some (.bool (inStr x y))
  | _, _ => none
def notInD : PyData → PyData → Option PyData
  | d, .list ds => if SeqAt.shaped d = true ∧ SeqAt.shaped (.list ds) = true then some (.bool (!ds.any fun z => PyData.eqv z d)) else none
  | d, .tuple ds => if SeqAt.shaped d = true ∧ SeqAt.shaped (.list ds) = true then some (.bool (!ds.any fun z => PyData.eqv z d)) else none
  | .str x, .str y => some (.bool (!inStr x y))
  | _, _ => none
abbrev rInAll (K : PySem.W.Frag) : R2 := fun x y H Q => rInD K x y H Q ∨ (rInU K false x y H Q ∨ ∃ i j, x = .str i ∧ y = .str j ∧ Q (.bl (!(Builtin.Str.occurrences j i 0 j.length 1).isEmpty)) H)
abbrev rNotInAll (K : PySem.W.Frag) : R2 := fun x y H Q => rNotInD K x y H Q ∨ (rInU K true x y H Q ∨ ∃ i j, x = .str i ∧ y = .str j ∧ Q (.bl (!(!(Builtin.Str.occurrences j i 0 j.length 1).isEmpty))) H)
theorem inD_ok {K : PySem.W.Frag} : OpOk K (rInAll K) kF inD := by
  intro F H x y d e z Q sm hx hy ho hq
  unfold inD at ho
  split at ho
  · split at ho
    · rename_i hs
      cases ho
      exact .inl ⟨d, _, (hx.cur sm).dp, (hy.cur sm).dp, hs.1, hs.2, hq _ F H (.refl sm) (.bl _)⟩
    · cases ho
  · split at ho
    · rename_i hs
      cases ho
      exact .inr (.inl ⟨d, _, (hx.cur sm).dp, (hy.cur sm).dp, hs.1, hs.2, hq _ F H (.refl sm) (.bl _)⟩)
    · cases ho
  · cases ho
    exact .inr (.inr ⟨_, _, hx.str, hy.str, hq _ F H (.refl sm) (.bl _)⟩)
  · cases ho
theorem notInD_ok {K : PySem.W.Frag} : OpOk K (rNotInAll K) kF notInD := by
  intro F H x y d e z Q sm hx hy ho hq
  unfold notInD at ho
  split at ho
  · split at ho
    · rename_i hs
      cases ho
      exact .inl ⟨d, _, (hx.cur sm).dp, (hy.cur sm).dp, hs.1, hs.2, hq _ F H (.refl sm) (.bl _)⟩
    · cases ho
  · split at ho
    · rename_i hs
      cases ho
      exact .inr (.inl ⟨d, _, (hx.cur sm).dp, (hy.cur sm).dp, hs.1, hs.2, hq _ F H (.refl sm) (.bl _)⟩)
    · cases ho
  · cases ho
    exact .inr (.inr ⟨_, _, hx.str, hy.str, hq _ F H (.refl sm) (.bl _)⟩)
  · cases ho
theorem Room.u65 {n : Nat} {A : Around} (hr : Room (n + 1) A) : A.units + 65 < cLine := by
  have := hr.un
  omega
section
variable {X : Cx} {xc : Nat → Addr} {W : WX} {k : Kd} {e a b c : Expr} {g ga gb gc : Rho → RE PyData} {pos : Pos}
theorem de_in (hu : X.A.units + 65 < cLine) (ha : DE X xc W kE a ga) (hb : DE X xc W kE b gb) (hm : behindInMarks .In b = false := by rfl) : DE X xc W kF (.Compare a [.In] [b] pos) (dBin inD ga gb) := de_bin (pe_cmpR ((op_inD hu).or ((op_inU hu).or op_in_str)) ha hb hm) kF_back inD_ok
theorem de_notIn (hu : X.A.units + 65 < cLine) (ha : DE X xc W kE a ga) (hb : DE X xc W kE b gb) (hm : behindInMarks .NotIn b = false := by rfl) : DE X xc W kF (.Compare a [.NotIn] [b] pos) (dBin notInD ga gb) := de_bin (pe_cmpR ((op_notInD hu).or ((op_notInU hu).or op_notin_str)) ha hb hm) kF_back notInD_ok
theorem dt_in (hu : X.A.units + 65 < cLine) (ha : DE X xc W kE a ga) (hb : DE X xc W kE b gb) (hm : behindInMarks .In b = false := by rfl) : DT X xc W (.Compare a [.In] [b] pos) (dTest (dBin inD ga gb)) := dt_bin (pt_cmpR ((op_inD hu).or ((op_inU hu).or op_in_str)) ha hb hm) inD_ok
theorem dt_notIn (hu : X.A.units + 65 < cLine) (ha : DE X xc W kE a ga) (hb : DE X xc W kE b gb) (hm : behindInMarks .NotIn b = false := by rfl) : DT X xc W (.Compare a [.NotIn] [b] pos) (dTest (dBin notInD ga gb)) := dt_bin (pt_cmpR ((op_notInD hu).or ((op_notInU hu).or op_notin_str)) ha hb hm) notInD_ok
end

/-! ### t.index(x) -/
section
variable {X : Cx}
def rIndexU (K : PySem.W.Frag) : V → List V → Hp → VK → Prop := fun x xs H Q => ∃ (a : Addr) (y : V) (d : PyData) (ds : List PyData) (j : Nat) (z : PyData), x = V.ref a ∧ xs = [y] ∧ Dp K H (V.ref a) (.tuple ds) ∧ Dp K H y d ∧
  SeqAt.shaped (.list ds) = true ∧ SeqAt.shaped d = true ∧ ds[j]? = some z ∧ PyData.eqv z d = true ∧ (∀ (m : Nat) (z' : PyData), m < j → ds[m]? = some z' → PyData.eqv z' d = false) ∧ Q (.int (j : Nat)) H
theorem mt_indexU (hu : X.A.units + 65 < cLine) : MtR X "tuple.index" (rIndexU X.K) := by
  intro pins s σ H x xs v us Q I rx rxs h
  obtain ⟨a, y, d, ds, j, z, rfl, rfl, hl, hy, sl, sd, hz, hzj, hno, q⟩ := h
  cases rx
  cases rxs with
  | cons ry rt =>
    rename_i uy ut
    cases rt
    obtain ⟨bs, r1⟩ := Dp.reads I d y uy hy ry
    have hxs : PyData.canLayAll0 ds = true := SeqAt.canLay_of_shaped sl
    have hroom : X.A.units + 1 + min (PyData.depthAll ds) d.depth < cLine := room_in_shaped sd hu
    cases hl with
    | tup hs ha =>
      obtain ⟨its, rv, ⟨⟨cls, dd, data, sls⟩, ho, hc, n, hdt⟩, hlen⟩ := I.tuple hs
      simp only at hc hdt
      subst hc hdt
      obtain ⟨as, h4⟩ := Dp.readsAll I ds _ its ha rv
      have hn : its.length = ds.length := SeqAt.ReadsAll.length ds its as h4
      have hmap : its.map (SeqAt.readOf s.heap) = ds := SeqAt.readsAll_map ds its as hxs h4
      have hvl := rv.length
      have hsl := sizeLine_eq
      obtain ⟨hjd, _⟩ := List.getElem?_eq_some_iff.mp hz
      have hjl : j < its.length := by omega
      have hj : j < its.toArray.size := by simpa using hjl
      have at_ : ∀ (m : Nat) (hm : m < its.toArray.size) (z' : PyData), ds[m]? = some z' → SeqAt.readOf s.heap its.toArray[m] = z' := by
        intro m hm z' hz'
        have hml : m < its.length := by simpa using hm
        rw [← hmap, List.getElem?_map, List.getElem?_eq_getElem hml] at hz'
        have e1 : SeqAt.readOf s.heap its[m] = z' := Option.some.inj (show some (SeqAt.readOf s.heap its[m]) = some z' from hz')
        simpa using e1
      refine call_meets PySem.F.slot_tuple_index ⟨_, ho, rfl⟩ PySem.F.entry_tuple_index (PySem.F.args_tuple_index_2 _ _)
        (TI.tuple_indexAt a its.toArray n dd sls uy (fun u => PyData.eqv (SeqAt.readOf s.heap u) d) j hj ?_ ?_) ⟨ho, SeqAt.items_eqAt (vs := its.toArray) (show ReadsAll s.heap its.toArray.toList ds as from h4) r1 hxs (SeqAt.canLay_of_shaped sd) hroom, ?_⟩
      · show PyData.eqv (SeqAt.readOf s.heap its.toArray[j]) d = true
        rw [at_ j hj z hz]; exact hzj
      · intro m hm hmj
        show PyData.eqv (SeqAt.readOf s.heap its.toArray[m]) d = false
        have hml : m < ds.length := by
          have : m < its.length := by simpa using hm
          omega
        rw [at_ m hm _ (List.getElem?_eq_getElem hml)]
        exact hno m _ hmj (List.getElem?_eq_getElem hml)
      · exact ⟨.int (j : Nat), H, I.tok _, ⟨_, rfl⟩, q⟩
end
def idxOfD (d : PyData) : List PyData → Option Nat
  | [] => none
  | z :: zs => if PyData.eqv z d = true then some 0 else (idxOfD d zs).map (· + 1)
theorem idxOfD_ok {d : PyData} : ∀ {ds : List PyData} {j : Nat}, idxOfD d ds = some j → ∃ z, ds[j]? = some z ∧ PyData.eqv z d = true ∧ ∀ (m : Nat) (z' : PyData), m < j → ds[m]? = some z' → PyData.eqv z' d = false
  | [], j, h => by cases h
  | z :: zs, j, h => by
    unfold idxOfD at h
    split at h
    · rename_i he
      cases h
      exact ⟨z, rfl, he, fun m z' hm => absurd hm (Nat.not_lt_zero _)⟩
    · rename_i he
      cases q : idxOfD d zs with
      | none => rw [q] at h; cases h
      | some i =>
        rw [q] at h; cases h
        obtain ⟨z1, h1, h2, h3⟩ := idxOfD_ok q
        refine ⟨z1, h1, h2, fun m z' hm hz => ?_⟩
        cases m with
        | zero => cases hz; simpa using he
        | succ m => exact h3 m z' (Nat.lt_of_succ_lt_succ hm) hz
def onTup (go : Rho → RE PyData) (f : List PyData → Rho → RE PyData) : Rho → RE PyData := fun ρ => (go ρ).bind fun d => match d with
  | .tuple ds => f ds ρ
  | _ => .bad
def onLst (go : Rho → RE PyData) (f : List PyData → Rho → RE PyData) : Rho → RE PyData := fun ρ => (go ρ).bind fun d => match d with
  | .list ds => f ds ρ
  | _ => .bad
def onStr (go : Rho → RE PyData) (f : Str → Rho → RE PyData) : Rho → RE PyData := fun ρ => (go ρ).bind fun d => match d with
  | .str z => f z ρ
  | _ => .bad
def indexD (ds : List PyData) (d : PyData) : Option PyData := if SeqAt.shaped (.list ds) = true ∧ SeqAt.shaped d = true then (idxOfD d ds).map fun j => .int (j : Nat) else none
def dIndexU (go g : Rho → RE PyData) : Rho → RE PyData := onTup go fun ds ρ => (g ρ).bind fun e => R.of (indexD ds e)
def dIndexL (go g : Rho → RE PyData) : Rho → RE PyData := onLst go fun ds ρ => (g ρ).bind fun e => R.of (indexD ds e)
section
variable {X : Cx} {xc : Nat → Addr} {W : WX} {k : Kd} {e o : Expr} {g go : Rho → RE PyData} {pos apos : Pos} {T : String} {id : String} {r : V → List V → Hp → VK → Prop}
def tTM (r : V → List V → Hp → VK → Prop) (to : TE) (t : TA) : TE := fun σ H Q => to σ H fun x H1 => (∃ a xs, x = .ref a ∧ SqN H1 a xs) ∧ t σ H1 fun xs H2 => r x xs H2 Q
theorem pe_tm {es : List Expr} {to : TE} {t : TA} {name : Str} {cpos : Pos} (slot : Slot "tuple" name id) (hty : typeOf (.builtin id) = pure (.type "method_descriptor")) (hm : MtR X id r) (ho : PE X o to) (ha : PA X (e :: es) t)
    (hbase : attributeBase o name X.env (eval o X.env) = eval o X.env := by rfl)
    (hfew : ((backTo cpos (starEach (e :: es) X.env)).all (fun x => !x.1) && (backToKw cpos (keywordEach [] X.env)).all (fun x => x.1.isSome)
      && decide ((e :: es).length + ([] : List Keyword).length + (if ([] : List Keyword).isEmpty then 0 else 1) < 30)) = true := by rfl)
    (hline : (apos.endLine == cpos.line) = true := by rfl) (hs : starEach (e :: es) X.env = (false, eval e X.env) :: starEach es X.env := by rfl) (hplain : (backTo cpos (starEach es X.env)).any (·.1) = false := by rfl) :
    PE X (.Call (.Attribute o name apos) (e :: es) [] cpos) (tTM r to t) := by
  refine ⟨fun pins s σ H Q I h => ?_⟩
  refine wpAny_Call_method_late hbase hfew hline rfl (thn (ho.run pins s σ H _ I h) fun v s1 ⟨x, H1, I1, r1, ty, q1⟩ => ?_)
  obtain ⟨a, xs, rfl, ob, hob, hdn⟩ := ty
  cases r1
  obtain ⟨hgo, _, its, _, hti⟩ : ObjOk X.prog X.w H1 s1.heap a (.frz ob (.tup xs)) := I1.hok a _ hob
  refine ⟨"tuple", id, PySem.F.plainAttrs_tuple, slot, hty, (show IsTup s1.heap a its.toArray from hti).typeIs, fun b hb => by cases hb; exact ⟨ob, hgo, hdn⟩, ?_⟩
  have hA := ha.run cpos pins s1 σ H1 _ I1 q1
  rw [hs] at hA ⊢
  refine Calls.callWith_builtin (by show (false || (backTo cpos (starEach es X.env)).any (·.1)) = false; rw [hplain] <;> rfl) (Calls.evalArgs_plain ?_)
  exact thn hA fun us s2 ⟨vs, H2, I2, r2, q2⟩ => hm pins s2 σ H2 (.ref a) vs _ us Q I2 rfl r2 q2
theorem tyV_lst {K : PySem.W.Frag} {H : Hp} {a : Addr} {vs : List V} (h : SqL K H a vs) : tyV K "list" (.ref a) H := .inl ⟨rfl, vs, h⟩
theorem de_indexU (h : PE X e (tTM (rIndexU X.K) (eC X.K xc W kE go) (tCons (eC X.K xc W kE g) tNil))) : DE X xc W kF e (dIndexU go g) := PE.imp h fun σ H Q ⟨F0, H0, ρ, F, r, hb, hq, hx⟩ => by
  refine eC.go r hb hx fun d ed v F1 H1 x1 r1 k1 hb1 hx1 => ?_
  cases d with
  | tuple ds =>
    obtain ⟨a, vs, rfl, h1, h2⟩ := k1.tup r1.same
    refine ⟨⟨a, vs, rfl, sqn_mono r1.same h1⟩, ?_⟩
    refine eC.go r1 hb1 hx1 fun d2 ed2 v2 F2 H2 x2 r2 k2 hb2 hx2 => ?_
    obtain ⟨z, ez⟩ := R.of_ne_bad hb2
    have eq : dIndexU go g ρ = .ok z := by
      show (go ρ).bind _ = _
      rw [ed, R.bind_ok]
      show (g ρ).bind _ = _
      rw [ed2, R.bind_ok, ez]; rfl
    unfold indexD at ez
    split at ez
    · rename_i hs
      cases q : idxOfD d2 ds with
      | none => rw [q] at ez; cases ez
      | some j =>
        rw [q] at ez; cases ez
        obtain ⟨z1, p1, p2, p3⟩ := idxOfD_ok q
        exact ⟨a, v2, d2, ds, j, z1, rfl, rfl, ((k1.step x2).cur r2.same).dp, (k2.cur r2.same).dp, hs.1, hs.2, p1, p2, p3, hq _ eq _ F2 H2 (x1.trans x2) (.int _)⟩
    · cases ez
  | _ => exact absurd rfl hb1
theorem de_indexL (h : PE X e (tBM X.K "list" (rIndexD X.K) (eC X.K xc W kE go) (tCons (eC X.K xc W kE g) tNil))) : DE X xc W kF e (dIndexL go g) := PE.imp h fun σ H Q ⟨F0, H0, ρ, F, r, hb, hq, hx⟩ => by
  refine eC.go r hb hx fun d ed v F1 H1 x1 r1 k1 hb1 hx1 => ?_
  cases d with
  | list ds =>
    obtain ⟨a, vs, rfl, h1, h2⟩ := k1.lst r1.same
    refine ⟨tyV_lst h1, ?_⟩
    refine eC.go r1 hb1 hx1 fun d2 ed2 v2 F2 H2 x2 r2 k2 hb2 hx2 => ?_
    obtain ⟨z, ez⟩ := R.of_ne_bad hb2
    have eq : dIndexL go g ρ = .ok z := by
      show (go ρ).bind _ = _
      rw [ed, R.bind_ok]
      show (g ρ).bind _ = _
      rw [ed2, R.bind_ok, ez]; rfl
    unfold indexD at ez
    split at ez
    · rename_i hs
      cases q : idxOfD d2 ds with
      | none => rw [q] at ez; cases ez
      | some j =>
        rw [q] at ez; cases ez
        obtain ⟨z1, p1, p2, p3⟩ := idxOfD_ok q
        exact ⟨a, v2, d2, ds, j, z1, rfl, rfl, ((k1.step x2).cur r2.same).dp, (k2.cur r2.same).dp, hs.1, hs.2, p1, p2, p3, hq _ eq _ F2 H2 (x1.trans x2) (.int _)⟩
    · cases ez
  | _ => exact absurd rfl hb1
end

/-! ### one's own list changed -/
/-- the slot i holds a list of one's own -/
def atOw (i : Nat) (f : List PyData → Rho → RS) : Rho → RS := fun ρ => match ρ[i]? with
  | some (some (.ow ds)) => f ds ρ
  | _ => .bad
def dApp (i : Nat) (g : Rho → RE PyData) : Rho → RS := atOw i fun ds => stE g fun d ρ => if ds.length < lim then .ok (.nx (ρ.set i (some (.ow (ds ++ [d]))))) else .bad
def dExt (i : Nat) (g : Rho → RE PyData) : Rho → RS := atOw i fun ds => stE g fun d ρ => match seqD d with
  | some es => if ds.length + es.length ≤ lim then .ok (.nx (ρ.set i (some (.ow (ds ++ es))))) else .bad
  | none => .bad
def dSetIx (i : Nat) (gi g : Rho → RE PyData) : Rho → RS := stE g fun d => atOw i fun ds => stE gi fun j ρ => match j with
  | .int j => match ixN ds.length j with
    | some m => .ok (.nx (ρ.set i (some (.ow (ds.set m d)))))
    | none => .bad
  | _ => .bad
theorem atOw_ok {K : PySem.W.Frag} {xc : Nat → Addr} {W : WX} {D : Ends} {F0 H0 F H : Hp} {ρ : Rho} {σ : L2.St} {i : Nat} {f : List PyData → Rho → RS} (r : SRel K F0 H0 ρ σ F H) (hg : Good K xc W D F0 H0 F (atOw i f ρ)) :
    ∃ ds a vs, ρ[i]? = some (some (.ow ds)) ∧ σ[i]? = some (some (.ref a)) ∧ H a = some (.lst vs) ∧ DqAll K F vs ds ∧ Good K xc W D F0 H0 F (f ds ρ) := by
  have hg : Good K xc W D F0 H0 F (match ρ[i]? with | some (some (.ow ds)) => f ds ρ | _ => .bad) := hg
  split at hg
  · rename_i ds q
    obtain ⟨a, vs, e, h0, h1, h2, h3⟩ := r.sl i _ q
    exact ⟨ds, a, vs, q, e, h2, h3, hg⟩
  · exact absurd rfl hg.nb
section
variable {X : Cx} {xc : Nat → Addr} {W : WX} {k : Kd} {e o : Expr} {g go gi : Rho → RE PyData} {pos apos : Pos} {i : Nat} {st : Stmt}
theorem ds_app (h : PS X st (tDrop (tBM X.K "list" rAppend (tVar i) (tCons (eC X.K xc W kF g) tNil)))) : DS1 X xc W st (dApp i g) := PS.imp h fun D σ H ⟨F0, H0, ρ, F, r, hg⟩ => by
  obtain ⟨ds, a, vs, q, e, h2, h3, hg⟩ := atOw_ok r hg
  refine ⟨.ref a, e, tyV_lst (SqL.of h2), eC.st r hg fun d v F2 H2 x r2 kk g2 => ?_⟩
  by_cases hl : ds.length < lim
  · rw [if_pos hl] at g2
    have hh := x.hh _ _ h2
    refine ⟨a, vs, v, rfl, rfl, hh, by rw [dpa_length h3]; exact Nat.lt_of_lt_of_le hl lim_le, g2.nx _ rfl _ F2 _ (.refl _) ?_⟩
    exact r2.setM (vs := vs) e q (dpa_append (dpa_mono x.ff h3) (.cons kk .nil))
  · rw [if_neg hl] at g2; exact absurd rfl g2.nb
end
end VS
end
section
set_option Elab.async false
set_option linter.all false
set_option maxRecDepth 100000
set_option autoImplicit false
namespace VS
open PySem PySem.Spec PyProof.Rows L2

/-! ### xs.extend(ys), ys any list or tuple -/
theorem extendLW (l : Addr) (items : Array Value) (n : Nat) (b : Addr) (items2 : Array Value) (n2 : Nat) (dd : Option Addr) (sl : Array (Option Value)) (hc0 : ¬(!items.isEmpty && Builtin.List.listTooLong (items.size + items2.size)) = true) (hc1 : items.size ≤ sizeLine) (hs2 : items.size + items2.size ≤ sizeLine + 1) :
    Meets (Builtin.«list.extend» ⟨[.ref l, .ref b], []⟩) (fun _ R s => s.heap.get? l = some { cls := .type "list", dict := none, data := .seq items n, slots := #[] } ∧ s.heap.get? b = some { cls := .type "list", dict := dd, data := .seq items2 n2, slots := sl } ∧ R (.ok (.ret Value.none)) { s with heap := s.heap.update l (Obj.mapSeq fun x => x ++ items2), toks := s.toks }) :=
  .of_wp fun prog w A R s h => by
    obtain ⟨hp, g, d, tk, os⟩ := s; obtain ⟨hl, hb, h⟩ := h; have f1 := AutoSeq1.idx_int; have f2 := AutoSeq1.sub_tuple_tuple; have f3 := AutoSeq1.sub_list_list; have f4 := AutoSeq1.sub_tuple_list; have f5 := AutoSeq1.sub_list_tuple
    have hz' : (items ++ items2).size ≤ sizeLine + 1 := by rw [Array.size_append]; exact hs2
    wp_walk using (wpAny_updateSeq hl rfl (hz := hc1) (_hz' := hz')), wpAny_loadPart' hl, wpAny_loadPart' hb; exact ⟨_, rfl, h⟩
theorem extendTW (l : Addr) (items : Array Value) (n : Nat) (b : Addr) (items2 : Array Value) (n2 : Nat) (dd : Option Addr) (sl : Array (Option Value)) (hs0 : ¬(!items.isEmpty && Builtin.List.listTooLong (items.size + items2.size)) = true) (hs1 : items.size ≤ sizeLine) (hs2 : items.size + items2.size ≤ sizeLine + 1) :
    Meets (Builtin.«list.extend» ⟨[.ref l, .ref b], []⟩) (fun _ R s => s.heap.get? l = some { cls := .type "list", dict := none, data := .seq items n, slots := #[] } ∧ s.heap.get? b = some { cls := .type "tuple", dict := dd, data := .seq items2 n2, slots := sl } ∧ R (.ok (.ret Value.none)) { s with heap := s.heap.update l (Obj.mapSeq fun x => x ++ items2), toks := s.toks }) :=
  .of_wp fun prog w A R s h => by
    obtain ⟨hp, g, d, tk, os⟩ := s; obtain ⟨hl, hb, h⟩ := h; have f1 := AutoSeq1.idx_int; have f2 := AutoSeq1.sub_tuple_tuple; have f3 := AutoSeq1.sub_list_list; have f4 := AutoSeq1.sub_tuple_list; have f5 := AutoSeq1.sub_list_tuple
    have hz' : (items ++ items2).size ≤ sizeLine + 1 := by rw [Array.size_append]; exact hs2
    wp_walk using (wpAny_updateSeq hl rfl (hz := hs1) (_hz' := hz')), wpAny_loadPart' hl, wpAny_loadPart' hb; exact ⟨_, rfl, h⟩
section
variable {X : Cx}
def rExtS (K : PySem.W.Frag) : V → List V → Hp → VK → Prop := fun x vs H Q => ∃ l b xs zs, x = .ref l ∧ vs = [.ref b] ∧ H l = some (.lst xs) ∧ (SqL K H b zs ∨ SqT K H b zs) ∧ xs.length + zs.length ≤ sizeLine ∧ Q .non (upd H l (.lst (xs ++ zs)))
theorem mt_extS : MtM X "list.extend" (rExtS X.K) := by
  intro pins s σ H x vs v us Q I rx rv h
  obtain ⟨l, b, xs, zs, rfl, rfl, hH, hB, hz, q⟩ := h
  cases rx
  obtain ⟨u, rfl, ru⟩ := rv.one
  cases ru
  obtain ⟨z, its, n, r, hl, e⟩ := I.lstM hH
  rcases hB with hB | hB
  · obtain ⟨its2, r2, ⟨⟨cls, dd, data, sl⟩, n2, ho, hc, _, hd⟩, _⟩ := I.list hB
    simp only at hc hd
    subst hc hd
    have hl2 := r2.length
    have hsz : its.toArray.size + its2.toArray.size ≤ sizeLine := by rw [List.size_toArray, List.size_toArray]; omega
    have hlong : ¬ (!its.toArray.isEmpty && Builtin.List.listTooLong (its.toArray.size + its2.toArray.size)) = true := by
      rw [notLongL hsz, Bool.and_false]
      exact Bool.false_ne_true
    refine call_meets F.slot_list_extend ⟨_, e, rfl⟩ F.entry_list_extend (F.args_list_extend_2 _ _)
      (extendLW l its.toArray n b its2.toArray n2 dd sl hlong (by rw [List.size_toArray]; omega) (by omega)) ⟨e, ho, ?_⟩
    refine ⟨.non, _, I.lset (its' := its ++ its2) hH e (by simp) (r.append r2) ?_, rfl, q⟩
    rw [List.length_append]
    omega
  · obtain ⟨its2, r2, ⟨⟨cls, dd, data, sl⟩, ho, hc, n2, hd⟩, _⟩ := I.tuple hB
    simp only at hc hd
    subst hc hd
    have hl2 := r2.length
    have hsz : its.toArray.size + its2.toArray.size ≤ sizeLine := by rw [List.size_toArray, List.size_toArray]; omega
    have hlong : ¬ (!its.toArray.isEmpty && Builtin.List.listTooLong (its.toArray.size + its2.toArray.size)) = true := by
      rw [notLongL hsz, Bool.and_false]
      exact Bool.false_ne_true
    refine call_meets F.slot_list_extend ⟨_, e, rfl⟩ F.entry_list_extend (F.args_list_extend_2 _ _)
      (extendTW l its.toArray n b its2.toArray n2 dd sl hlong (by rw [List.size_toArray]; omega) (by omega)) ⟨e, ho, ?_⟩
    refine ⟨.non, _, I.lset (its' := its ++ its2) hH e (by simp) (r.append r2) ?_, rfl, q⟩
    rw [List.length_append]
    omega
end
section
variable {X : Cx} {xc : Nat → Addr} {W : WX} {k : Kd} {e o : Expr} {g go gi : Rho → RE PyData} {pos apos : Pos} {i j : Nat} {st : Stmt}
theorem ds_ext (h : PS X st (tDrop (tBM X.K "list" (rExtS X.K) (tVar i) (tCons (eC X.K xc W kE g) tNil)))) : DS1 X xc W st (dExt i g) := PS.imp h fun D σ H ⟨F0, H0, ρ, F, r, hg⟩ => by
  obtain ⟨ds, a, vs, q, e, h2, h3, hg⟩ := atOw_ok r hg
  refine ⟨.ref a, e, tyV_lst (SqL.of h2), eC.st r hg fun d v F2 H2 x r2 kk g2 => ?_⟩
  have hh := x.hh _ _ h2
  cases d with
  | list es =>
    obtain ⟨b, ws, rfl, h4, h5⟩ := kk.lst r2.same
    have g3 : Good X.K xc W D F0 H0 F2 (if ds.length + es.length ≤ lim then .ok (.nx (ρ.set i (some (.ow (ds ++ es))))) else .bad) := g2
    by_cases hl : ds.length + es.length ≤ lim
    · rw [if_pos hl] at g3
      exact ⟨a, b, vs, ws, rfl, rfl, hh, .inl h4, by rw [dpa_length h3, dpa_length h5]; exact le_lim hl, g3.nx _ rfl _ F2 _ (.refl _) (r2.setM (vs := vs) e q (dpa_append (dpa_mono x.ff h3) h5))⟩
    · rw [if_neg hl] at g3; exact absurd rfl g3.nb
  | tuple es =>
    obtain ⟨b, ws, rfl, h4, h5⟩ := kk.tup r2.same
    have g3 : Good X.K xc W D F0 H0 F2 (if ds.length + es.length ≤ lim then .ok (.nx (ρ.set i (some (.ow (ds ++ es))))) else .bad) := g2
    by_cases hl : ds.length + es.length ≤ lim
    · rw [if_pos hl] at g3
      exact ⟨a, b, vs, ws, rfl, rfl, hh, .inr (sqn_mono r2.same h4).sq, by rw [dpa_length h3, dpa_length h5]; exact le_lim hl, g3.nx _ rfl _ F2 _ (.refl _) (r2.setM (vs := vs) e q (dpa_append (dpa_mono x.ff h3) h5))⟩
    · rw [if_neg hl] at g3; exact absurd rfl g3.nb
  | _ => exact absurd rfl g2.nb
theorem ds_setIx (h : PS X st (tAsg (eC X.K xc W kF g) (gSub (tVar i) (eC X.K xc W kE gi) rSetL))) : DS1 X xc W st (dSetIx i gi g) := PS.imp h fun D σ H ⟨F0, H0, ρ, F, r, hg⟩ => by
  refine eC.st r hg fun d v F2 H2 x r2 kk g2 => ?_
  obtain ⟨ds, a, vs, q, e, h2, h3, hg⟩ := atOw_ok r2 g2
  refine ⟨.ref a, e, eC.st r2 hg fun d3 v3 F3 H3 x3 r3 k3 g3 => ?_⟩
  cases d3 with
  | int m =>
    have g4 : Good X.K xc W D F0 H0 F3 (match ixN ds.length m with | some m => .ok (.nx (ρ.set i (some (.ow (ds.set m d))))) | none => .bad) := g3
    cases hq : ixN ds.length m with
    | none => rw [hq] at g4; exact absurd rfl g4.nb
    | some m' =>
      rw [hq] at g4
      exact ⟨a, vs, m, m', rfl, k3.int, x3.hh _ _ h2, by rw [dpa_length h3]; exact hq, g4.nx _ rfl _ F3 _ (.refl _) (r3.setM (vs := vs) e q (dpa_set (dp_mono x3.ff kk) m' (dpa_mono x3.ff h3)))⟩
  | _ => exact absurd rfl g3.nb
/-- ys.pop(m): the item, the rest -/
def popD (es : List PyData) (m : Int) : Option (PyData × List PyData) := if smallI m then (ixN es.length m).bind fun k => (es[k]?).map fun y => (y, es.eraseIdx k) else none
theorem popD_ok {K : PySem.W.Frag} {F : Hp} {ws : List V} {es es' : List PyData} {m : Int} {y : PyData} (h : DqAll K F ws es) (e : popD es m = some (y, es')) : ∃ k u, seqIndex? m ws.length = some k ∧ ws[k]? = some u ∧ Dq K F u y ∧ DqAll K F (ws.eraseIdx k) es' ∧ -(2 ^ 63) ≤ m ∧ m < 2 ^ 63 := by
  unfold popD at e
  split at e
  · rename_i hs
    have hs := smallI_ok hs
    cases hq : ixN es.length m with
    | none => rw [hq] at e; cases e
    | some k =>
      rw [hq] at e
      have e2 : (es[k]?).map (fun y => (y, es.eraseIdx k)) = some (y, es') := e
      cases hy : es[k]? with
      | none => rw [hy] at e2; cases e2
      | some z =>
        rw [hy] at e2
        cases e2
        obtain ⟨u, hu, du⟩ := dpa_get h hy
        exact ⟨k, u, by rw [dpa_length h]; exact (ixN_seq hq).1, hu, du, dpa_erase k h, by omega, by omega⟩
  · cases e
/-- xs.append(ys.pop(e)), both one's own -/
def dAppPop (i j : Nat) (g : Rho → RE PyData) : Rho → RS := if i = j then fun _ => .bad else atOw i fun ds => atOw j fun es => stE g fun d ρ => match d with
  | .int m => match popD es m with
    | some (y, es') => if ds.length < lim then .ok (.nx ((ρ.set j (some (.ow es'))).set i (some (.ow (ds ++ [y]))))) else .bad
    | none => .bad
  | _ => .bad
theorem ds_appPop (h : PS X st (tDrop (tBM X.K "list" rAppend (tVar i) (tCons (tBM X.K "list" rPopAt (tVar j) (tCons (eC X.K xc W kE g) tNil)) tNil)))) : DS1 X xc W st (dAppPop i j g) := PS.imp h fun D σ H ⟨F0, H0, ρ, F, r, hg⟩ => by
  unfold dAppPop at hg
  split at hg
  · exact absurd rfl hg.nb
  rename_i hij
  obtain ⟨ds, a, vs, q, e, h2, h3, hg⟩ := atOw_ok r hg
  obtain ⟨es, b, ws, q', e', h2', h3', hg⟩ := atOw_ok r hg
  refine ⟨.ref a, e, tyV_lst (SqL.of h2), .ref b, e', tyV_lst (SqL.of h2'), eC.st r hg fun d v F2 H2 x r2 kk g2 => ?_⟩
  have nab : a ≠ b := fun z => r.df i j ds es hij q q' (by rw [e, e', z])
  cases d with
  | int m =>
    dsimp only at g2
    cases hp : popD es m with
    | none => rw [hp] at g2; exact absurd rfl g2.nb
    | some p =>
      obtain ⟨y, es'⟩ := p
      rw [hp] at g2
      dsimp only at g2
      by_cases hl : ds.length < lim
      · rw [if_pos hl] at g2
        obtain ⟨k, u, p1, p2, p3, p4, p5, p6⟩ := popD_ok h3' hp
        have hb2 := x.hh _ _ h2'
        have ha2 := x.hh _ _ h2
        have r3 := r2.setM (vs := ws) e' q' (dpa_mono x.ff p4)
        refine ⟨b, ws, m, k, u, rfl, by rw [kk.int], hb2, p5, p6, p1, p2, ?_⟩
        refine ⟨a, vs, u, rfl, rfl, by rw [upd_ne nab]; exact ha2, by rw [dpa_length h3]; exact Nat.lt_of_lt_of_le hl lim_le, g2.nx _ rfl _ F2 _ (.refl _) ?_⟩
        refine r3.setM (vs := vs) (ds := ds) e ?_ (dpa_append (dpa_mono x.ff h3) (.cons (dp_mono x.ff p3) .nil))
        rw [List.getElem?_set_ne (Ne.symm hij)]
        exact q
      · rw [if_neg hl] at g2; exact absurd rfl g2.nb
  | _ => exact absurd rfl g2.nb
/-- x = ys.pop(e) -/
def dSetPop (i j : Nat) (g : Rho → RE PyData) : Rho → RS := atOw j fun es => stE g fun d ρ => match d with
  | .int m => match popD es m with
    | some (y, es') => .ok (.nx ((ρ.set j (some (.ow es'))).set i (some (.fr y))))
    | none => .bad
  | _ => .bad
theorem ds_setPop (h : PS X st (tAsg (tBM X.K "list" rPopAt (tVar j) (tCons (eC X.K xc W kE g) tNil)) (gName i))) : DS1 X xc W st (dSetPop i j g) := PS.imp h fun D σ H ⟨F0, H0, ρ, F, r, hg⟩ => by
  obtain ⟨es, b, ws, q', e', h2', h3', hg⟩ := atOw_ok r hg
  refine ⟨.ref b, e', tyV_lst (SqL.of h2'), eC.st r hg fun d v F2 H2 x r2 kk g2 => ?_⟩
  cases d with
  | int m =>
    dsimp only at g2
    cases hp : popD es m with
    | none => rw [hp] at g2; exact absurd rfl g2.nb
    | some p =>
      obtain ⟨y, es'⟩ := p
      rw [hp] at g2
      dsimp only at g2
      obtain ⟨k, u, p1, p2, p3, p4, p5, p6⟩ := popD_ok h3' hp
      have r3 := r2.setM (vs := ws) e' q' (dpa_mono x.ff p4)
      exact ⟨b, ws, m, k, u, rfl, by rw [kk.int], x.hh _ _ h2', p5, p6, p1, p2, g2.nx _ rfl _ F2 _ (.refl _) (r3.setF (dp_mono x.ff p3))⟩
  | _ => exact absurd rfl g2.nb
end

/-! ### a, b = e1, e2 -/
def dPar (i j : Nat) (ga gb : Rho → RE PyData) : Rho → RS := stE ga fun d => stE gb fun e ρ => if i = j then .bad else .ok (.nx ((ρ.set i (some (.fr d))).set j (some (.fr e))))
def dParN (i j : Nat) (ga gb : Rho → RE PyData) : Rho → RS := stE ga fun d => stE gb fun e ρ => if i = j then .bad else match d, e with
  | .list ds, .list es => .ok (.nx ((ρ.set i (some (.ow ds))).set j (some (.ow es))))
  | _, _ => .bad
section
variable {X : Cx} {xc : Nat → Addr} {W : WX} {k : Kd} {e o : Expr} {ga gb : Rho → RE PyData} {pos apos : Pos} {i j : Nat} {st : Stmt}
theorem ds_par (h : PS X st (tPar i j (tCons (eC X.K xc W kF ga) (tCons (eC X.K xc W kF gb) tNil)))) : DS1 X xc W st (dPar i j ga gb) := PS.imp h fun D σ H ⟨F0, H0, ρ, F, r, hg⟩ => by
  refine eC.st r hg fun d v F2 H2 x r2 kk g2 => eC.st r2 g2 fun d3 v3 F3 H3 x3 r3 k3 g3 => ?_
  by_cases hij : i = j
  · rw [if_pos hij] at g3; exact absurd rfl g3.nb
  · rw [if_neg hij] at g3
    exact ⟨v, v3, rfl, g3.nx _ rfl _ F3 H3 (.refl _) ((r3.setF (dp_mono x3.ff kk)).setF k3)⟩
theorem ds_parN (h : PS X st (tPar i j (tCons (eC X.K xc W kN ga) (tCons (eC X.K xc W kN gb) tNil)))) : DS1 X xc W st (dParN i j ga gb) := PS.imp h fun D σ H ⟨F0, H0, ρ, F, r, hg⟩ => by
  refine eC.st r hg fun d v F2 H2 x r2 kk g2 => eC.st r2 g2 fun d3 v3 F3 H3 x3 r3 k3 g3 => ?_
  by_cases hij : i = j
  · rw [if_pos hij] at g3; exact absurd rfl g3.nb
  · rw [if_neg hij] at g3
    obtain ⟨a, vs, ds, rfl, rfl, p1, p2, p3, p4⟩ := kk
    obtain ⟨b, ws, es, rfl, rfl, q1, q2, q3, q4⟩ := k3
    have f3a : F3 a = none := by
      cases q : F3 a with
      | none => rfl
      | some o =>
        rcases x3.nw a o q with z | z
        · rw [p2] at z; cases z
        · rw [p3] at z; cases z
    have nab : a ≠ b := fun z => by rw [z, q1] at p3; cases p3
    have ra : SRel X.K F0 H0 (ρ.set i (some (.ow ds))) (σ.set i (some (.ref a))) F3 H3 := r.setNew (x.trans x3) p1 f3a (x3.hh _ _ p3) (dpa_mono x3.ff p4)
    have rb : SRel X.K F0 H0 ((ρ.set i (some (.ow ds))).set j (some (.ow es))) ((σ.set i (some (.ref a))).set j (some (.ref b))) F3 H3 := ra.setO (r.fz.hh.free (x.hh.free q1)) q2 q3 q4 (fun m fs hm e z => by
      rcases set_some e with ⟨rfl, w, hl⟩ | ⟨n, w⟩
      · rw [List.getElem?_set_self (by rw [← r.ln]; exact hl)] at z
        cases z; exact nab rfl
      · rw [List.getElem?_set_ne n] at z
        obtain ⟨c, us, e1, _, _, e2, _⟩ := r2.sl m _ w
        rw [e1] at z; cases z
        rw [q1] at e2; cases e2) (fun m t c cs e z g => by
      rcases set_some e with ⟨_, w, _⟩ | ⟨n, w⟩
      · cases w
      · rw [List.getElem?_set_ne n] at z
        exact r2.newp x3 q1 m t c cs w z g)
    exact ⟨_, _, rfl, g3.nx _ rfl _ F3 H3 (.refl _) rb⟩

/-! ### raise -/
def dRaise (n : Nat) : Rho → RS := fun ρ => .ex (⟨n, none⟩, ρ)
theorem ds_raise {n : Nat} {C : Addr} (hC : xc n = C) (h : PS X st (fun _ σ H => W (.ref C) none σ H)) : DS1 X xc W st (dRaise n) := PS.imp h fun D σ H ⟨F0, H0, ρ, F, r, hg⟩ =>
  hg.ex ⟨n, none⟩ ρ rfl (.ref C) none σ F H (.refl _) r ⟨by rw [hC], rfl⟩
end

/-! ### a def is worth what its body is -/
def svOf (b : Bool) (d : PyData) : SV := cond b (.fr d) (match d with
  | .list ds => .sh ds
  | d => .fr d)
def rho0 : List Bool → List PyData → Rho
  | b :: ks, d :: ds => some (svOf b d) :: rho0 ks ds
  | _, _ => []
def fnD (n : Nat) (ks : List Bool) (g : Rho → RS) : List PyData → RE PyData := fun ds => match g (rho0 ks ds ++ List.replicate (n - ks.length) none) with
  | .ok (.rt d) => .ok d
  | .ok (.ry d _) => .ok d
  | .ok (.nx _) => .ok .none
  | .ex (x, _) => .ex x
  | .bad => .bad
theorem svOf_ok {K : PySem.W.Frag} {F H : Hp} {b : Bool} {v : V} {d : PyData} (sm : Same F H) (h : if b = true then Dq K F v d else DpS K F H v d) : SlotOk K F H F H (svOf b d) (some (some v)) := by
  cases b with
  | true => rw [if_pos rfl] at h; exact ⟨v, rfl, h⟩
  | false =>
    rw [if_neg Bool.false_ne_true] at h
    cases d with
    | list ds =>
      obtain ⟨a, vs, rfl, h1, h2⟩ := h.lst sm
      exact ⟨a, vs, rfl, h1, h2⟩
    | none => rcases h with h | ⟨_, _, _, _, q, _⟩ <;> first | exact ⟨v, rfl, h⟩ | cases q
    | bool _ => rcases h with h | ⟨_, _, _, _, q, _⟩ <;> first | exact ⟨v, rfl, h⟩ | cases q
    | int _ => rcases h with h | ⟨_, _, _, _, q, _⟩ <;> first | exact ⟨v, rfl, h⟩ | cases q
    | str _ => rcases h with h | ⟨_, _, _, _, q, _⟩ <;> first | exact ⟨v, rfl, h⟩ | cases q
    | tuple _ => rcases h with h | ⟨_, _, _, _, q, _⟩ <;> first | exact ⟨v, rfl, h⟩ | cases q
    | dict _ => rcases h with h | ⟨_, _, _, _, q, _⟩ <;> first | exact ⟨v, rfl, h⟩ | cases q
theorem svOf_no {b : Bool} {d : PyData} {ds : List PyData} : svOf b d ≠ .ow ds := by
  cases b with
  | true => intro z; cases z
  | false => cases d <;> (intro z; cases z)
theorem rho0_len {K : PySem.W.Frag} {F H : Hp} : ∀ {ks : List Bool} {vs : List V} {ds : List PyData}, AOk K F H ks vs ds → (rho0 ks ds).length = vs.length
  | [], _, _, ⟨h1, h2⟩ => by rw [h1, h2]; rfl
  | b :: ks, _, _, ⟨v, vs', d, ds', h1, h2, h3, h4⟩ => by rw [h1, h2]; show (rho0 ks ds').length + 1 = _; rw [rho0_len h4]; rfl
theorem rho0_ok {K : PySem.W.Frag} {F H : Hp} (sm : Same F H) (m : Nat) : ∀ {ks : List Bool} {vs : List V} {ds : List PyData}, AOk K F H ks vs ds → ∀ (i : Nat) (sv : SV), (rho0 ks ds ++ List.replicate m none)[i]? = some (some sv) → SlotOk K F H F H sv ((vs.map some ++ List.replicate m none)[i]?) ∧ mutB sv = false
  | [], _, _, ⟨h1, h2⟩, i, sv, e => by
    rw [h2] at e
    have e' : (List.replicate m (none : Option SV))[i]? = some (some sv) := e
    rw [List.getElem?_replicate] at e'
    split at e' <;> cases e'
  | b :: ks, _, _, ⟨v, vs', d, ds', h1, h2, h3, h4⟩, 0, sv, e => by
    rw [h1]
    rw [h2] at e
    cases e
    exact ⟨svOf_ok sm h3, by cases b <;> cases d <;> rfl⟩
  | b :: ks, _, _, ⟨v, vs', d, ds', h1, h2, h3, h4⟩, i + 1, sv, e => by
    rw [h1]
    rw [h2] at e
    exact rho0_ok sm m h4 i sv e
theorem fn_ok {P : Program} {w : World} {K : PySem.W.Frag} {mg : Str → Option Value} {base : Heap} {xc : Nat → Addr} {x qual : Str} {st : Stmt} {f : Addr} {fd : FuncData} {N ps : List Str} {m n : Nat} {ks : List Bool} {g : Rho → RS} (F : Fun K x qual st f fd) (S : FnScope N ps (defScope st)) (hk : ks.length = ps.length) (hn : N.length = n)
    (body : ∀ (cdv : Value) (A : Around) (outer : List Env) (s : Shared) (H : Hp) (E : XK), Room m (A.deeper (envOfC qual (defScope st) s.heap.objs.size f cdv)) →
      DS (cxOf (L2.CX P w) P w K mg base N qual (defScope st) f cdv A outer s H E) xc (fun cls d _ H => E cls d H) (defBody st) g) :
    FnOk P w K mg base (L2.CX P w) (m + 1) f fd ps (spD K xc ks (fnD n ks g)) := by
  refine F.okX S (fun vs H Q E h => ?_) (fun cdv A outer s H vs Q E hr h => ?_)
  · obtain ⟨F, ds, _, ha, _⟩ := h
    rw [ha.length, hk]
  · obtain ⟨Ff, ds, sm, ha, hb, hq, hx⟩ := h
    subst hn
    refine ⟨_, body cdv A outer s H E hr, Ff, H, rho0 ks ds ++ List.replicate (N.length - ks.length) none, Ff, ⟨.refl sm, ?_, fun i sv e => ?_, fun i j es fs _ e _ => ?_, ⟨fun i j t es a b cs e => (by have := (rho0_ok sm (N.length - ks.length) ha i _ e).2; cases this), fun i j t es a b cs e => (by have := (rho0_ok sm (N.length - ks.length) ha i _ e).2; cases this), fun i j t u a b cs es _ e => (by have := (rho0_ok sm (N.length - ks.length) ha i _ e).2; cases this)⟩⟩, ⟨fun z => hb ?_, fun ρ' e σ' F' H' _ r' => hq .none ?_ .non F' H' r'.fz .non, fun d e v F' H' fz dd => hq d ?_ v F' H' fz dd, fun y ρ' e cls dd σ' F' H' _ r' xo => hx y ?_ cls dd F' H' r'.fz xo, fun d ρ' e v σ' F' H' _ r' dd => hq d ?_ v F' H' r'.fz dd⟩⟩
    · show (rho0 ks ds ++ _).length = (vs.map some ++ List.replicate (N.length - vs.length) none).length
      rw [List.length_append, List.length_append, rho0_len ha, List.length_map, List.length_replicate, List.length_replicate, ha.length]
    · have q := rho0_ok sm (N.length - ks.length) ha i sv e
      rw [← ha.length] at q
      exact q.1
    · have := (rho0_ok sm (N.length - ks.length) ha i _ e).2
      cases this
    · show (match g (rho0 ks ds ++ List.replicate (N.length - ks.length) none) with | .ok (.rt d) => R.ok d | .ok (.ry d _) => .ok d | .ok (.nx _) => .ok .none | .ex (x, _) => .ex x | .bad => .bad) = _
      rw [z]
    · show (match g (rho0 ks ds ++ List.replicate (N.length - ks.length) none) with | .ok (.rt d) => R.ok d | .ok (.ry d _) => .ok d | .ok (.nx _) => .ok .none | .ex (x, _) => .ex x | .bad => .bad) = _
      rw [e]
    · show (match g (rho0 ks ds ++ List.replicate (N.length - ks.length) none) with | .ok (.rt d) => R.ok d | .ok (.ry d _) => .ok d | .ok (.nx _) => .ok .none | .ex (x, _) => .ex x | .bad => .bad) = _
      rw [e]
    · show (match g (rho0 ks ds ++ List.replicate (N.length - ks.length) none) with | .ok (.rt d) => R.ok d | .ok (.ry d _) => .ok d | .ok (.nx _) => .ok .none | .ex (x, _) => .ex x | .bad => .bad) = _
      rw [e]
    · show (match g (rho0 ks ds ++ List.replicate (N.length - ks.length) none) with | .ok (.rt d) => R.ok d | .ok (.ry d _) => .ok d | .ok (.nx _) => .ok .none | .ex (x, _) => .ex x | .bad => .bad) = _
      rw [e]
end VS
end
section
set_option Elab.async false
set_option linter.all false
set_option maxRecDepth 100000
set_option autoImplicit false
namespace VS
open PySem PySem.Spec PyProof.Rows L2

def powD := intOp (fun i j => decide (0 ≤ j ∧ j ≤ 1000000 ∧ i.natAbs < 2 ^ 64)) fun i j => .int (i ^ j.toNat)
section
variable {X : Cx} {xc : Nat → Addr} {W : WX} {k : Kd} {e a b c : Expr} {g ga gb gc : Rho → RE PyData} {pos p p1 p2 q2 : Pos}
theorem de_pow (ha : DE X xc W kE a ga) (hb : DE X xc W kE b gb) : DE X xc W kF (.BinOp a .Pow b pos) (dBin powD ga gb) := de_bin (pe_op op_pow ha hb) kF_back (intOp_ok (fun i j h => show 0 ≤ j ∧ j ≤ 1000000 ∧ i.natAbs < 2 ^ 64 from of_decide_eq_true h) fun _ _ _ => .int _)

/-! ### range as an argument -/
theorem rgV_dq {K : PySem.W.Frag} {F : Hp} (lo hi : Int) : DqAll K F (rgV lo hi) (rngD lo hi) := by
  unfold rgV rngD
  induction (List.range (hi - lo).toNat) with
  | nil => exact .nil
  | cons x xs ih => exact .cons (.int _) ih
def listRg : PyData → Option PyData
  | .int i => if smallI i then some (.list (rngD 0 i)) else none
  | _ => none
def tupRg : PyData → Option PyData
  | .int i => if smallI i then some (.tuple (rngD 0 i)) else none
  | _ => none
theorem smallI_rg {i : Int} (h : smallI i = true) : RgOk 0 i := by
  have := of_decide_eq_true h
  exact ⟨by omega, by omega, by omega, by omega, by omega⟩
theorem de_listRg (hc : X.calm = true) (hg : Gl X "list") (hm : X.mg "list" = none) (hg2 : Gl X "range") (hm2 : X.mg "range" = none) (h : DE X xc W kE a g)
    (na : starEach [a] X.env = (false, eval a X.env) :: starEach [] X.env := by rfl) (nb : starEach [.Call (.Name "range" p1) [a] [] p2] X.env = (false, eval (.Call (.Name "range" p1) [a] [] p2) X.env) :: starEach [] X.env := by rfl) :
    DE X xc W kN (.Call (.Name "list" p) [.Call (.Name "range" p1) [a] [] p2] [] pos) (dUn listRg g) := PE.imp (pe_listRg hc hg hm (prg_1 hg2 hm2 h na) nb) fun σ H Q ⟨F0, H0, ρ, F, r, hb, hq, hx⟩ => by
  refine eC.go r hb hx fun d ed v F1 H1 x1 r1 k1 hb1 hx1 => ?_
  obtain ⟨z, ez⟩ := R.of_ne_bad hb1
  have eq : dUn listRg g ρ = .ok z := by show (g ρ).bind _ = _; rw [ed, R.bind_ok, ez]; rfl
  unfold listRg at ez
  split at ez
  · split at ez
    · rename_i hs
      cases ez
      exact ⟨_, k1.int, smallI_rg hs, fun p hp => hq _ eq _ F1 _ (x1.trans (.own r1.same hp)) ⟨p, _, _, rfl, rfl, x1.hh.free hp, r1.same.free hp, upd_same, rgV_dq _ _⟩⟩
    · cases ez
  · cases ez
def tTupRgN (te : L2.St → Hp → (Int → Int → Hp → Prop) → Prop) : TE := fun σ H Q => te σ H fun a b H1 => RgOk a b ∧ ∀ q us, H1 q = none → Q (.ref q) (upd H1 q (tupN us (rgV a b)))
theorem pe_tupRgN {te : L2.St → Hp → (Int → Int → Hp → Prop) → Prop} (hc : X.calm = true) (hg : Gl X "tuple") (hm : X.mg "tuple" = none) (he : PRg X e te) (na : starEach [e] X.env = (false, eval e X.env) :: starEach [] X.env := by rfl) : PE X (.Call (.Name "tuple" p) [e] [] pos) (tTupRgN te) := by
  refine ⟨fun pins s σ H Q I h => ?_⟩
  refine Call_ (ld_blt I hg hm boot_tuple (PyProof.Rows.callWith_type1 (args_cons (thn (he pins s σ H _ I h) fun x s1 ⟨r, a, b, t, u, v, H1, ex, hr, I1, ok, q⟩ => args_nil ?_) na) na))
  subst ex
  obtain ⟨b1, b2, b3, b4, b5⟩ := ok
  refine call_tuple_range (n := (b - a).toNat) (I1.ok.hd hc) hr (small_one b1 b2 b3 b4) (rangeSize_nat a b) b5 fun h' tk acc hk hi => ?_
  have I2 : Inv X pins σ H1 { s1 with heap := h', toks := tk } := I1.kept hk
  refine ⟨.ref h'.objs.size, upd H1 h'.objs.size (tupN acc.toList (rgV a b)), I2.laid (t' := tk) (fun c o e => Heap.get?_push_of_some _ e) (Nat.le_refl _) (show ObjOk X.prog X.w _ _ _ (tupN acc.toList (rgV a b)) from ⟨?_, ?_, acc.toList, vals_rg hi, ?_⟩), rfl, q _ _ (I2.hok.fresh (Nat.le_refl _))⟩
  · rw [Array.toArray_toList]; exact Heap.get?_push_size _ rfl
  · rw [rgV_length, sizeLine_eq]; omega
  · rw [Array.toArray_toList]; exact IsTup.new _ _
theorem de_tupRg (hc : X.calm = true) (hg : Gl X "tuple") (hm : X.mg "tuple" = none) (hg2 : Gl X "range") (hm2 : X.mg "range" = none) (h : DE X xc W kE a g)
    (na : starEach [a] X.env = (false, eval a X.env) :: starEach [] X.env := by rfl) (nb : starEach [.Call (.Name "range" p1) [a] [] p2] X.env = (false, eval (.Call (.Name "range" p1) [a] [] p2) X.env) :: starEach [] X.env := by rfl) :
    DE X xc W kF (.Call (.Name "tuple" p) [.Call (.Name "range" p1) [a] [] p2] [] pos) (dUn tupRg g) := PE.imp (pe_tupRgN hc hg hm (prg_1 hg2 hm2 h na) nb) fun σ H Q ⟨F0, H0, ρ, F, r, hb, hq, hx⟩ => by
  refine eC.go r hb hx fun d ed v F1 H1 x1 r1 k1 hb1 hx1 => ?_
  obtain ⟨z, ez⟩ := R.of_ne_bad hb1
  have eq : dUn tupRg g ρ = .ok z := by show (g ρ).bind _ = _; rw [ed, R.bind_ok, ez]; rfl
  unfold tupRg at ez
  split at ez
  · split at ez
    · rename_i hs
      cases ez
      exact ⟨_, k1.int, smallI_rg hs, fun p us hp => hq _ eq _ (upd F1 p (tupN us (rgV 0 _))) _ (x1.trans (.new r1.same hp)) (.tup (SqN.of upd_same) (rgV_dq _ _))⟩
    · cases ez
  · cases ez
end

/-! ### len(set(t)), t a tuple of ints -/
def ddup : List Int → List Int
  | [] => []
  | x :: xs => if x ∈ xs then ddup xs else x :: ddup xs
theorem mem_ddup {y : Int} : ∀ {xs : List Int}, y ∈ ddup xs ↔ y ∈ xs
  | [] => Iff.rfl
  | x :: xs => by
    unfold ddup
    split
    · rename_i h
      rw [mem_ddup, List.mem_cons]
      exact ⟨.inr, fun z => z.elim (fun e => e ▸ h) id⟩
    · rw [List.mem_cons, List.mem_cons, mem_ddup]
theorem nodup_ddup : ∀ xs : List Int, (ddup xs).Nodup
  | [] => List.nodup_nil
  | x :: xs => by
    unfold ddup
    split
    · exact nodup_ddup xs
    · rename_i h
      exact List.nodup_cons.mpr ⟨fun z => h (mem_ddup.mp z), nodup_ddup xs⟩
theorem nodup_len : ∀ (l D : List Int), l.Nodup → (∀ x ∈ l, x ∈ D) → l.length ≤ D.length
  | [], D, _, _ => Nat.zero_le _
  | x :: l, D, hn, h => by
    have hx : x ∈ D := h x List.mem_cons_self
    obtain ⟨h1, h2⟩ := List.nodup_cons.mp hn
    have ih := nodup_len l (D.erase x) h2 fun y hy => (List.mem_erase_of_ne (fun (e : y = x) => h1 (e ▸ hy))).mpr (h y (List.mem_cons_of_mem _ hy))
    rw [List.length_erase_of_mem hx] at ih
    have : 0 < D.length := List.length_pos_of_mem hx
    rw [List.length_cons]; omega
def lenSetD : PyData → Option PyData
  | .tuple xs => (intsOf xs).bind fun ns => if ns.length ≤ 1000 then some (.int ((ddup ns).length : Nat)) else none
  | _ => none
section
variable {X : Cx} {xc : Nat → Addr} {W : WX} {k : Kd} {e a b c : Expr} {g ga gb gc : Rho → RE PyData} {pos p p1 p2 q2 : Pos}
def tLenSetU (K : PySem.W.Frag) (ta : TE) : TE := fun σ H Q => ta σ H fun x H1 => ∃ (l : Addr) (ns : List Int), x = .ref l ∧ SqT K H1 l (ns.map V.int) ∧ ns.length ≤ 1000 ∧ Q (.int ((ddup ns).length : Nat)) H1
theorem pe_lenSetU {ta : TE} (hc : X.calm = true) (hg : Gl X "len") (hm : X.mg "len" = none) (hg2 : Gl X "set") (hm2 : X.mg "set" = none) (ha : PE X a ta)
    (na : starEach [a] X.env = (false, eval a X.env) :: starEach [] X.env := by rfl) (nb : starEach [.Call (.Name "set" p1) [a] [] p2] X.env = (false, eval (.Call (.Name "set" p1) [a] [] p2) X.env) :: starEach [] X.env := by rfl) : PE X (.Call (.Name "len" p) [.Call (.Name "set" p1) [a] [] p2] [] pos) (tLenSetU X.K ta) := by
  refine ⟨fun pins s σ H Q I h => ?_⟩
  refine Call_ (ld_blt I hg hm PySem.boot_len ?_)
  refine PyProof.Rows.callWith_builtin1 (PyProof.Rows.args_cons ?_ nb) nb rfl
  refine Call_ (ld_blt I hg2 hm2 PyProof.Rows.boot_set ?_)
  refine PyProof.Rows.callWith_type1 (PyProof.Rows.args_cons (thn (ha.run pins s σ H _ I h) fun v s1 ⟨x, H1, I1, r1, q1⟩ => PyProof.Rows.args_nil ?_) na) na rfl
  obtain ⟨l, ns, rfl, hq, h1, q1⟩ := q1
  cases r1
  obtain ⟨its, r, pl, hz⟩ := I1.tuple hq
  refine call_set_tupI ns (I1.ok.hd hc) (show s1.heap.IsTuple l its.toArray from pl) (by simpa using intsAre_of r) (by unfold scanBound; omega) fun h' tk c hS hcn hk => ?_
  refine PyProof.Rows.args_nil ?_
  obtain ⟨o, es, ep, t, ho, hex, hd, _, hnd, hmem, hsb, hf, hn, _⟩ := hS
  have I2 : Inv X pins σ H1 { s1 with heap := h', toks := tk } := I1.kept hk
  have hc2 : es.size = (ddup ns).length := by
    have e1 := nodup_len (es.toList.map keyOf) (ddup ns) hnd fun y hy => mem_ddup.mpr (of_decide_eq_true ((hmem y).mpr hy))
    have e2 := nodup_len (ddup ns) (es.toList.map keyOf) (nodup_ddup ns) fun y hy => (hmem y).mp (decide_eq_true (mem_ddup.mp hy))
    rw [List.length_map] at e1 e2
    have e3 : es.toList.length = es.size := Array.length_toList
    omega
  exact call_len_set ho hex hd hf (by rw [hn] <;> omega) ⟨.int (ddup ns).length, H1, I2.tok _, ⟨_, by rw [hc2]⟩, q1⟩
theorem de_lenSet (hc : X.calm = true) (hg : Gl X "len") (hm : X.mg "len" = none) (hg2 : Gl X "set") (hm2 : X.mg "set" = none) (h : DE X xc W kE a g)
    (na : starEach [a] X.env = (false, eval a X.env) :: starEach [] X.env := by rfl) (nb : starEach [.Call (.Name "set" p1) [a] [] p2] X.env = (false, eval (.Call (.Name "set" p1) [a] [] p2) X.env) :: starEach [] X.env := by rfl) :
    DE X xc W kF (.Call (.Name "len" p) [.Call (.Name "set" p1) [a] [] p2] [] pos) (dUn lenSetD g) := PE.imp (pe_lenSetU hc hg hm hg2 hm2 h na nb) fun σ H Q ⟨F0, H0, ρ, F, r, hb, hq, hx⟩ => by
  refine eC.go r hb hx fun d ed v F1 H1 x1 r1 k1 hb1 hx1 => ?_
  obtain ⟨z, ez⟩ := R.of_ne_bad hb1
  have eq : dUn lenSetD g ρ = .ok z := by show (g ρ).bind _ = _; rw [ed, R.bind_ok, ez]; rfl
  unfold lenSetD at ez
  split at ez
  · rename_i xs
    cases q : intsOf xs with
    | none => rw [q] at ez; cases ez
    | some ns =>
      rw [q] at ez
      have e := intsOf_eq q
      subst e
      have ez2 : (if ns.length ≤ 1000 then some (PyData.int ((ddup ns).length : Nat)) else none) = some z := ez
      split at ez2
      · rename_i hl
        cases ez2
        obtain ⟨a, vs, rfl, h1, h2⟩ := k1.tup r1.same
        have e := dpa_ints h2
        subst e
        exact ⟨a, ns, rfl, (sqn_mono r1.same h1).sq, hl, hq _ eq _ F1 H1 x1 (.int _)⟩
      · cases ez2
  · cases ez
end
end VS
end
section
set_option Elab.async false
set_option linter.all false
set_option maxRecDepth 100000
set_option autoImplicit false
namespace VS
open PySem PySem.Spec PyProof.Rows L2

/-! ### try: body except C as e: suite -/
/-- how a suite holds the exception: a, and its dict at dd if it has one -/
def exS (a dd : Addr) (x : Exc) : SV := match x.arg with
  | none => .ob a
  | some d => .pr (.ox a dd d)
theorem SRel.setX {K : PySem.W.Frag} {xc : Nat → Addr} {F0 H0 F H : Hp} {ρ : Rho} {σ : L2.St} {i : Nat} {a : Addr} {x : Exc} {cls : Value} {d : Option Addr} (r : SRel K F0 H0 ρ σ F H) (xo : XOk K xc F H x cls d) : ∃ dd, (∀ z, x.arg = some z → d = some dd) ∧ SRel K F0 H0 (ρ.set i (some (exS a dd x))) (σ.set i (some (.ref a))) F H := by
  obtain ⟨_, xo⟩ := xo
  unfold exS
  cases ha : x.arg with
  | none => exact ⟨0, fun z hz => (nomatch hz), r.setB⟩
  | some d' =>
    rw [ha] at xo
    obtain ⟨dd, v, e, h1, h2⟩ := xo
    refine ⟨dd, fun z _ => e, r.setP ⟨rfl, v, h1, h2⟩⟩
/-- m: which classes of exceptions the clause takes -/
def dTry (body : Rho → RS) (m : Exc → Option Bool) (i : Nat) (suite : Addr → Addr → Exc → Rho → RS) : Rho → RS := fun ρ => match body ρ with
  | .ex (x, ρ') => match m x with
    | some true => (match suite 0 0 x (ρ'.set i (some (exS 0 0 x))) with
      | .ok (.nx ρ'') => .ok (.nx (ρ''.set i none))
      | .ok (.rt d) => .ok (.rt d)
      | .ok (.ry d ρ'') => .ok (.ry d (ρ''.set i none))
      | _ => .bad)
    | some false => .ex (x, ρ')
    | none => .bad
  | r => r
/-- the suite does not look at where the exception stands -/
def Steady (i : Nat) (suite : Addr → Addr → Exc → Rho → RS) : Prop := ∀ (a dd : Addr) (x : Exc) (ρ : Rho),
  match suite 0 0 x (ρ.set i (some (exS 0 0 x))) with
  | .ok (.nx ρ'') => ∃ ρ3, suite a dd x (ρ.set i (some (exS a dd x))) = .ok (.nx ρ3) ∧ ρ3.set i none = ρ''.set i none
  | .ok (.rt d) => suite a dd x (ρ.set i (some (exS a dd x))) = .ok (.rt d)
  | .ok (.ry d ρ'') => ∃ ρ3, suite a dd x (ρ.set i (some (exS a dd x))) = .ok (.ry d ρ3) ∧ ρ3.set i none = ρ''.set i none
  | _ => True
/-- what the end of a suite is worth -/
def endS (i : Nat) : RS → RS
  | .ok (.nx ρ'') => .ok (.nx (ρ''.set i none))
  | .ok (.rt d) => .ok (.rt d)
  | .ok (.ry d ρ'') => .ok (.ry d (ρ''.set i none))
  | _ => .bad
theorem Good.suite {K : PySem.W.Frag} {xc : Nat → Addr} {W : WX} {D : Ends} {F0 H0 F : Hp} {i : Nat} {ss : Addr → Addr → Exc → Rho → RS} {a dd : Addr} {y : Exc} {ρ' : Rho} (st : Steady i ss) (hg2 : Good K xc W D F0 H0 F (endS i (ss 0 0 y (ρ'.set i (some (exS 0 0 y)))))) {D' : Ends}
    (hn : ∀ σ H, D'.nx σ H = D.nx (σ.set i none) H) (hr : ∀ v H, D'.rt v H = D.rt v H) : Good K xc W0 D' F0 H0 F (ss a dd y (ρ'.set i (some (exS a dd y)))) := by
  have hst := st a dd y ρ'
  split at hst
  · rename_i ρ'' eq
    rw [eq] at hg2
    obtain ⟨ρ3, e3, e4⟩ := hst
    rw [e3]
    refine ⟨(fun z => nomatch z), fun ρ5 e5 σ5 F5 H5 s5 r5 => ?_, (fun _ z => nomatch z), (fun _ _ z => nomatch z), (fun _ _ z => nomatch z)⟩
    cases e5
    have r6 : SRel K F0 H0 (ρ3.set i none) (σ5.set i none) F5 H5 := r5.setN
    rw [e4] at r6
    rw [hn]
    exact hg2.nx _ rfl _ F5 H5 s5 r6
  · rename_i d eq
    rw [eq] at hg2
    rw [hst]
    exact ⟨(fun z => nomatch z), (fun _ z => nomatch z), fun d' e' v F' H' fz dv => by cases e'; rw [hr]; exact hg2.rt d rfl v F' H' fz dv, (fun _ _ z => nomatch z), (fun _ _ z => nomatch z)⟩
  · rename_i d ρ'' eq
    rw [eq] at hg2
    obtain ⟨ρ3, e3, e4⟩ := hst
    rw [e3]
    refine ⟨(fun z => nomatch z), (fun _ z => nomatch z), (fun _ z => nomatch z), (fun _ _ z => nomatch z), fun d' ρ5 e5 v σ5 F5 H5 s5 r5 dv => ?_⟩
    cases e5
    have r6 : SRel K F0 H0 (ρ3.set i none) (σ5.set i none) F5 H5 := r5.setN
    rw [e4] at r6
    rw [hr]
    exact hg2.ry _ _ rfl v _ F5 H5 s5 r6 dv
  · rename_i h1 h2 h3
    exfalso
    refine hg2.nb ?_
    unfold endS
    split
    · rename_i ρ'' eq; exact absurd eq (h1 ρ'')
    · rename_i d eq; exact absurd eq (h2 d)
    · rename_i d ρ'' eq; exact absurd eq (h3 d ρ'')
    · rfl
section
variable {X : Cx} {xc : Nat → Addr} {W : WX} {x n : Str} {c : Value} {i : Nat} {body suite : List Stmt} {b₀ : Stmt} {np pos pos' : Pos} {sb : Rho → RS} {ss : Addr → Addr → Exc → Rho → RS} {m : Exc → Option Bool}
theorem ds_try (hs : X.stack = X.env :: X.outer) (hf : X.env.frame = some X.env.locals) (hN : X.N.Nodup) (hi : X.N[i]? = some n) (hln : X.env.kindOf n = some .local) (hc : Names X x c) (tk : Takes X W)
    (hm : ∀ y b, m y = some b → PySem.W.exmOne X.K (.ref (xc y.cls)) c = some b) (st : Steady i ss)
    (hb : ∀ (W : WX) (pn : List (Addr × Obj)) (xe : Value → Shared → Prop), Takes (X.tr pn xe) W → PassesOwn (model X.prog X.w) X.A X.env xe → DS (X.tr pn xe) xc W body sb)
    (hsu : ∀ (a dd : Addr) (oe : Obj) (y : Exc) (d : Option Addr) (pn : List (Addr × Obj)), m y = some true → Zc (.ref (xc y.cls)) d oe → (∃ vs, oe.data = .fields vs) → (y.arg = none → d = none) → (∀ z, y.arg = some z → d = some dd) → DS (X.suite a ((a, oe) :: pn)) xc W0 (b₀ :: suite) (ss a dd y)) :
    DS1 X xc W (.Try body [.ExceptHandler (some (.Name x np)) (some n) (b₀ :: suite) pos'] [] [] pos) (dTry sb m i ss) := by
  -- the suite's reading: of the exception that it is
  have T := ps_try_as (X := X) (Wout := W) (c := c) (i := i) (x := x) (n := n) (np := np) (pos := pos) (pos' := pos') (body := body) (b₀ := b₀) (suite := suite) (tb := fun W => sC X.K xc W sb)
    (ts := fun a cls d D σ H => ∃ (y : Exc) (dd : Addr), m y = some true ∧ cls = .ref (xc y.cls) ∧ (y.arg = none → d = none) ∧ (∀ z, y.arg = some z → d = some dd) ∧ sC X.K xc W0 (ss a dd y) D σ H) hs hf hN hi hln hc tk hb
    (fun a oe cls d pn hz hfl => ⟨fun pins s σ H D I h => by
      obtain ⟨y, dd, hy, ec, hd, hd2, q⟩ := h
      subst ec
      exact (hsu a dd oe y d pn hy hz hfl hd hd2).run pins s σ H D I q⟩)
  refine PS.imp T fun D σ H ⟨F0, H0, ρ, F, r, hg⟩ => ?_
  have hg : Good X.K xc W D F0 H0 F (match sb ρ with
    | .ex (x, ρ') => match m x with
      | some true => endS i (ss 0 0 x (ρ'.set i (some (exS 0 0 x))))
      | some false => .ex (x, ρ')
      | none => .bad
    | r => r) := by
    have e : dTry sb m i ss ρ = (match sb ρ with
      | .ex (x, ρ') => match m x with
        | some true => endS i (ss 0 0 x (ρ'.set i (some (exS 0 0 x))))
        | some false => .ex (x, ρ')
        | none => .bad
      | r => r) := by
      unfold dTry endS
      rfl
    rw [← e]; exact hg
  refine ⟨F0, H0, ρ, F, r, ?_⟩
  cases q : sb ρ with
  | bad => rw [q] at hg; exact absurd rfl hg.nb
  | ok f =>
    rw [q] at hg
    dsimp only at hg
    exact ⟨hg.nb, hg.nx, hg.rt, (fun y ρ' e => nomatch e), hg.ry⟩
  | ex p =>
    obtain ⟨y, ρ'⟩ := p
    rw [q] at hg
    dsimp only at hg
    refine ⟨(fun z => nomatch z), (fun _ z => nomatch z), (fun _ z => nomatch z), fun y2 ρ2 e cls dd σ' F' H' sm r' xo => ?_, (fun _ _ z => nomatch z)⟩
    cases e
    obtain ⟨rfl, xo2⟩ := id xo
    cases hmy : m y with
    | none => rw [hmy] at hg; exact absurd rfl hg.nb
    | some b =>
      rw [hmy] at hg
      refine ⟨b, hm _ _ hmy, fun hbt a ha => ?_, fun hbf => ?_⟩
      · subst hbt
        dsimp only at hg
        obtain ⟨de, he, rx⟩ := r'.setX (i := i) (a := a) xo
        refine ⟨y, de, hmy, rfl, fun ha0 => ?_, he, F0, H0, _, F', rx, Good.suite st (hg.mono sm) (fun _ _ => rfl) (fun _ _ => rfl)⟩
        rw [ha0] at xo2; exact xo2
      · subst hbf
        dsimp only at hg
        exact hg.ex y ρ' rfl _ dd σ' F' H' sm r' ⟨rfl, xo2⟩
end

/-! ### isinstance of the exception that a suite holds -/
theorem boot_VE : bootBuiltins "ValueError" = some (.type "ValueError") := by decide +kernel
section
open PySem.W
variable {prog : Program} {w : World} {A : Around} {E : Value → Shared → Prop} {sh : Shared} {K : Frag} {ex D : Addr} {eo dct : Obj}
/-- the class of an exception that has a dict of its own, asked by the attribute -/
theorem class_dct {Q : Option Value → Shared → Prop} (C : ExcC K D) (kin : K.In sh.heap) (I : InstAt sh.heap ex eo D (some dct)) (hQ : Q (some (.ref D)) { sh with toks := sh.toks + 1 }) : wpAny (model prog w) A (getAttr? (.ref ex) "__class__") Q E sh := by
  have found : findObj K D (some dct) "__class__" = some (.bind (.builtin "getset_descriptor.__get__") (.builtin "object.__class__")) := findObj_data (by obtain ⟨cd, hc, _⟩ := any_some C.hd; rw [hc]; rfl) C.ha C.hn C.ht
  obtain ⟨h1, h2, h3, h4, h5⟩ := sh
  have T0 := I.type (M := model prog w)
  have T1 := looks_findIn (M := model prog w) kin C.hg
  have T2 := looks_findIn (M := model prog w) kin C.hk
  have T3 := looks_find (M := model prog w) kin I found
  have under : Looks (model prog w) h1 (isInstance (.ref ex) (.type "BaseException")) true := T0.andThen (looks_subIn kin C.hs)
  have q2 : (Value.builtin "BaseException.__getattribute__" == Value.builtin "object.__getattribute__") = false := by decide +kernel
  have q1 : (onTheHeap (Value.ref D) && Value.builtin "BaseException.__getattribute__" == Value.builtin "object.__getattribute__") = false := by rw [q2]; rfl
  unfold getAttr? getAttrBy? getAttrBy
  refine wpAny_bind (wpAny_mkText (wpAny_bind (wpAny_attempt (wpAny_holding (wpAny_bind (T0.at (wpAny_bind (T1.at ?_))))))))
  show wpAny _ _ (if (onTheHeap (Value.ref D) && Value.builtin "BaseException.__getattribute__" == Value.builtin "object.__getattribute__") = true then _ else _) _ _ _
  rw [q1, if_neg Bool.false_ne_true]; unfold getAttrByItsOwn hookBefore
  refine wpAny_bind ?_
  rw [if_pos (show onTheHeap (Value.ref D) = true from rfl)]; refine T2.at (wpAny_bind (wpAny_attempt (wpAny_holding ?_)))
  unfold callGetattribute
  rw [show (false && onTheHeap (Value.builtin "BaseException.__getattribute__")) = false from rfl, if_neg Bool.false_ne_true]
  unfold boundAndCalled
  rw [PySem.F.excAttr_ValueError.ga.bind (.ref ex)]
  refine wpAny_bind (wpAny_pure ?_)
  show wpAny _ _ (call (.builtin "BaseException.__getattribute__") [.ref ex, .str "__class__" h4]) _ _ _
  refine wpAny_call (codeAny_call_builtin PySem.F.excAttr_ValueError.ga.plain PySem.F.entry_bexc_ga (@check_slot (model prog w) _ _ ⟨h1, h2, h3, h4 + 1, h5⟩ "BaseException.__getattribute__" "BaseException" "__getattribute__" (.ref ex) [.str "__class__" h4] [] _ (by decide +kernel) (by decide +kernel) under (PySem.F.args_bexc_ga (.ref ex) (.str "__class__" h4)) ?_))
  unfold Builtin.«object.__getattribute__»
  refine wpAny_bind (wpAny_of_eq (a := ((Value.ref ex : Value), [Value.str "__class__" h4])) (by first | rfl | (simp only [slotArgs]; rfl)) (wpAny_bind (wpAny_pure (wpAny_bind (T0.at (wpAny_bind (T3.at ?_)))))))
  show wpAny _ _ (holding [Value.builtin "object.__class__"] (call (.builtin "getset_descriptor.__get__") [.builtin "object.__class__", .ref ex, .ref D]) >>= ret) _ _ _
  refine wpAny_bind (wpAny_holding (wpAny_call (class_get (s := ⟨h1, h2, h3, h4 + 1, h5⟩) (ox := eo) (od := some dct) kin I C.hm (wpAny_pure ?_))))
  show wpAny _ _ (handedOut (.ref D)) _ _ _
  rw [handedOut_of (v := .ref D) rfl]
  first
    | exact wpAny_pure (wpAny_pure hQ)
    | exact wpAny_pure hQ
    | exact wpAny_pure (wpAny_bind (wpAny_pure (wpAny_pure hQ)))
theorem kitx_dct (C : ExcC K D) : KitX K (.ref ex) (.ref D) (fun h => InstAt h ex eo D (some dct)) where
  ty := fun _ _ _ I => I.type
  it := fun _ _ kin _ => by
    obtain ⟨cdD, hcD, _⟩ := any_some C.hd
    unfold clsIn at hcD
    split at hcD
    · rename_i c1 d1 cd1 sl1 look
      intro A' Q' E' s' k q
      unfold isType loadHead
      exact wpAny_bind (wpAny_loadPart (k _ _ (kin _ _ look)) (wpAny_pure q))
    · cases hcD
  ne := fun h tp dd its n sl kin htp => by
    obtain ⟨cdD, hcD, _⟩ := any_some C.hd
    refine Bool.eq_false_iff.mpr fun q => ?_
    obtain rfl : D = tp := Value.ref.inj (beq_iff_eq.mp q)
    unfold clsIn at hcD
    split at hcD
    · rename_i c1 d1 cd1 sl1 look
      cases (kin _ _ look).symm.trans htp
    · cases hcD
  ca := fun kin I k => class_dct C kin I k
end
/-- isinstance(e, c), whether e has a dict or not -/
def rIsX (K : PySem.W.Frag) (D a : Addr) (d : Option Addr) : List V → Hp → VK → Prop := fun xs H Q => ∃ (c : V) (cv : Value) (b : Bool), xs = [.ref a, c] ∧ (∀ u, RelV c u → u = cv) ∧ PySem.W.kitOne K (.ref D) cv = some b ∧ (∀ dd, d = some dd → ∃ fs, H dd = some (.xd fs)) ∧ Q (.bl b) H
theorem call_isX {X : Cx} {a D : Addr} {oe : Obj} {d : Option Addr} {pn : List (Addr × Obj)} (C : ExcC X.K D) (hz : Zc (.ref D) d oe) (hf : ∃ vs, oe.data = .fields vs) : CallR (X.suite a ((a, oe) :: pn)) (.builtin "isinstance") (rIsX X.K D a d) := by
  cases d with
  | none =>
    intro pins s σ H xs us Q I r h
    obtain ⟨c, cv, b, h1, h2, h3, _, h4⟩ := h
    exact call_isE C hz hf pins s σ H xs us Q I r ⟨c, cv, b, h1, h2, h3, h4⟩
  | some dd =>
    intro pins s σ H xs us Q I r h
    obtain ⟨c, cv, b, rfl, hcv, e, hx, q⟩ := h
    obtain ⟨fs, hdd⟩ := hx dd rfl
    cases r with
    | cons rx rr => cases rr with
      | cons rt rr =>
        cases rr
        cases rx
        obtain rfl := hcv _ rt
        obtain ⟨there, _⟩ := I.pin (a, oe) (List.mem_append.mpr (.inl List.mem_cons_self))
        obtain ⟨vs, hv⟩ := hf
        have hx : ObjOk X.prog X.w H s.heap dd (.xd fs) := I.hok dd _ hdd
        obtain ⟨mA, hns, _⟩ := hx
        obtain ⟨od, ho, _⟩ := lookIn_ns hns
        have J : PySem.W.InstAt s.heap a oe D (some od) := ⟨there, hz.1, by unfold PySem.W.notCls; rw [hv] <;> rfl, by rw [hz.2]; exact ho⟩
        exact PySem.W.kia_one (kitx_dct C) I.kIn J e (fun z => nomatch z) fun tk => ⟨.bl b, H, I.kept (t' := tk) fun _ _ z => z, rfl, q⟩
def isOb (a : Addr) : Option (Option SV) → Bool
  | some (some (.ob a')) => a' == a
  | _ => false
def isOx (a dd : Addr) : Option (Option SV) → Bool
  | some (some (.pr (.ox a' dd' _))) => a' == a && dd' == dd
  | _ => false
def dIsE (i : Nat) (a dd : Addr) (y : Exc) (b : Bool) : Rho → RE PyData := fun ρ => if (match y.arg with | none => isOb a ρ[i]? | some _ => isOx a dd ρ[i]?) = true then .ok (.bool b) else .bad
theorem isOb_of {a : Addr} {o : Option (Option SV)} (h : isOb a o = true) : o = some (some (.ob a)) := by
  unfold isOb at h
  split at h
  · rw [beq_iff_eq] at h; rw [h]
  · cases h
theorem isOx_of {a dd : Addr} {o : Option (Option SV)} (h : isOx a dd o = true) : ∃ d, o = some (some (.pr (.ox a dd d))) := by
  unfold isOx at h
  split at h
  · rw [Bool.and_eq_true, beq_iff_eq, beq_iff_eq] at h; rw [h.1, h.2]; exact ⟨_, rfl⟩
  · cases h
/-- e.line -/
def dLine (i : Nat) (a dd : Addr) : Rho → RE PyData := fun ρ => match ρ[i]? with
  | some (some (.pr (.ox a' dd' d))) => if a' = a ∧ dd' = dd then .ok d else .bad
  | _ => .bad
section
variable {X : Cx} {xc : Nat → Addr} {W : WX} {a C dd : Addr} {oe : Obj} {pn : List (Addr × Obj)} {e1 e2 : Expr} {i : Nat} {p pos : Pos} {cv : Value} {c : V} {b : Bool} {d : Option Addr} {y : Exc}
theorem de_isE (hC : ExcC X.K C) (hz : Zc (.ref C) d oe) (hf : ∃ vs, oe.data = .fields vs) (hd0 : y.arg = none → d = none) (hd1 : ∀ z, y.arg = some z → d = some dd) (hg : Gl X "isinstance") (hm : X.mg "isinstance" = none) (h1 : PE (X.suite a ((a, oe) :: pn)) e1 (tVar i)) (h2 : PE (X.suite a ((a, oe) :: pn)) e2 (tC c)) (hcv : ∀ u, RelV c u → u = cv) (hk : PySem.W.kitOne X.K (.ref C) cv = some b)
    (hst : starEach [e1, e2] X.env = (false, eval e1 X.env) :: starEach [e2] X.env := by rfl) (hst2 : starEach [e2] X.env = (false, eval e2 X.env) :: starEach [] X.env := by rfl) (hpl : (backTo pos (starEach [e2] X.env)).any (·.1) = false := by rfl) :
    DE (X.suite a ((a, oe) :: pn)) xc W kF (.Call (.Name "isinstance" p) [e1, e2] [] pos) (dIsE i a dd y b) :=
  PE.imp (pe_callB (X := X.suite a ((a, oe) :: pn)) (call_isX hC hz hf) hg hm boot_isi (pa_cons h1 (pa_cons h2 pa_nil hst2) hst) (by decide) (by decide) hst hpl) fun σ H Q ⟨F0, H0, ρ, F, r, hb, hq, hx⟩ => by
  unfold dIsE at hb hq
  by_cases hc : (match y.arg with | none => isOb a ρ[i]? | some _ => isOx a dd ρ[i]?) = true
  · rw [if_pos hc] at hq
    have q := hq _ rfl _ F H (.refl r.same) (.bl _)
    cases hy : y.arg with
    | none =>
      rw [hy] at hc
      exact ⟨_, r.sl i _ (isOb_of hc), c, cv, b, rfl, hcv, hk, (fun d' e' => by rw [hd0 hy] at e'; cases e'), q⟩
    | some u =>
      rw [hy] at hc
      obtain ⟨d', e⟩ := isOx_of hc
      obtain ⟨v, ev, evr, u', hF, _⟩ := r.sl i _ e
      subst evr
      exact ⟨_, ev, c, cv, b, rfl, hcv, hk, (fun d'' e' => by rw [hd1 u hy] at e'; cases e'; exact ⟨_, r.same _ _ hF⟩), q⟩
  · rw [if_neg hc] at hb; exact absurd rfl hb
/-- e.line -/
theorem de_line {n : Str} (T : XfC X.K C) (hno : PySem.W.findIn X.K (.ref C) "line" = some none) (hz : Zc (.ref C) d oe) (hf : ∃ vs, oe.data = .fields vs) (hd1 : ∀ z, y.arg = some z → d = some dd) (hy : ∃ z, y.arg = some z) (h1 : PE (X.suite a ((a, oe) :: pn)) e1 (tVar i)) (hb : attributeBase e1 "line" X.env (eval e1 X.env) = eval e1 X.env := by rfl) :
    DE (X.suite a ((a, oe) :: pn)) xc W kF (.Attribute e1 "line" pos) (dLine i a dd) := PE.imp (pe_xf T hno hz hf h1 hb) fun σ H Q ⟨F0, H0, ρ, F, r, hb, hq, hx⟩ => by
  obtain ⟨z, hz⟩ := hy
  unfold dLine at hb hq
  split at hb
  · rename_i a' dd' d' q
    obtain ⟨v, ev, evr, u', hF, hd⟩ := r.sl i _ q
    by_cases e : a' = a ∧ dd' = dd
    · obtain ⟨rfl, rfl⟩ := e
      simp only [q, and_self, if_true] at hq
      subst evr
      exact ⟨_, ev, rfl, rfl, _, _, u', hd1 z hz, r.same _ _ hF, by simp [List.lookup], hq _ rfl _ F H (.refl r.same) hd⟩
    · rw [if_neg e] at hb; exact absurd rfl hb
  · exact absurd rfl hb
end
theorem isE_eval (i : Nat) (a dd : Addr) (y : Exc) (b : Bool) (ρ : Rho) : dIsE i a dd y b (ρ.set i (some (exS a dd y))) = if i < ρ.length then .ok (.bool b) else .bad := by
  unfold dIsE exS
  rw [List.getElem?_set, if_pos rfl]
  by_cases h : i < ρ.length
  · rw [if_pos h, if_pos h]
    cases hy : y.arg <;> simp [isOb, isOx]
  · rw [if_neg h, if_neg h]
    cases hy : y.arg <;> rfl
theorem line_eval (i : Nat) (a dd : Addr) (y : Exc) (ρ : Rho) : dLine i a dd (ρ.set i (some (exS a dd y))) = if i < ρ.length then R.of y.arg else .bad := by
  unfold dLine exS
  rw [List.getElem?_set, if_pos rfl]
  by_cases h : i < ρ.length
  · rw [if_pos h, if_pos h]
    cases hy : y.arg <;> simp
  · rw [if_neg h, if_neg h]
theorem steady_ret {i : Nat} {g : Addr → Addr → Exc → Rho → RE PyData} (h : ∀ (a dd : Addr) (x : Exc) (ρ : Rho), g a dd x (ρ.set i (some (exS a dd x))) = g 0 0 x (ρ.set i (some (exS 0 0 x)))) : Steady i (fun a dd y => dRet (g a dd y)) := fun a dd x ρ => by
  have e : ∀ b c, dRet (g b c x) (ρ.set i (some (exS b c x))) = (match g 0 0 x (ρ.set i (some (exS 0 0 x))) with | .ok d => .ok (.rt d) | .ex y => .ex (y, ρ.set i (some (exS b c x))) | .bad => .bad) := fun b c => by
    unfold dRet stE
    rw [h b c x ρ]
    cases g 0 0 x (ρ.set i (some (exS 0 0 x))) <;> rfl
  dsimp only
  rw [e 0 0, e a dd]
  cases g 0 0 x (ρ.set i (some (exS 0 0 x))) <;> simp
/-- the classes of exceptions by number: 0 is the base class of all, 11 ValueError -/
def subB (y c : Nat) : Bool := y == c || c == 0 || c == 11
def mX (l : List Nat) (c : Nat) : Exc → Option Bool := fun y => if y.cls ∈ l then some (subB y.cls c) else none
theorem mX_mem {l : List Nat} {c : Nat} {y : Exc} {b : Bool} (h : mX l c y = some b) : y.cls ∈ l ∧ subB y.cls c = b := by
  unfold mX at h
  split at h
  · rename_i hy; cases h; exact ⟨hy, rfl⟩
  · cases h
end VS
end
section
set_option Elab.async false
set_option linter.all false
set_option maxRecDepth 100000
set_option autoImplicit false
namespace VS
open PySem PySem.Spec PyProof.Rows L2
theorem fn_is {P : Program} {w : World} {K : PySem.W.Frag} {mg : Str → Option Value} {base : Heap} {xc : Nat → Addr} {x qual : Str} {st : Stmt} {f : Addr} {fd : FuncData} {N ps : List Str} {m n : Nat} {ks : List Bool} {g : Rho → RS} (F : Fun K x qual st f fd) (S : FnScope N ps (defScope st)) (hk : ks.length = ps.length) (hn : N.length = n)
    (body : ∀ (cdv : Value) (A : Around) (outer : List Env) (s : Shared) (H : Hp) (E : XK), Room (m + 1) (cxOf (L2.CX P w) P w K mg base N qual (defScope st) f cdv A outer s H E).A → (cxOf (L2.CX P w) P w K mg base N qual (defScope st) f cdv A outer s H E).A.units + 65 < cLine →
      Takes (cxOf (L2.CX P w) P w K mg base N qual (defScope st) f cdv A outer s H E) (fun cls d _ H => E cls d H) →
      PassesOwn (model P w) (cxOf (L2.CX P w) P w K mg base N qual (defScope st) f cdv A outer s H E).A (cxOf (L2.CX P w) P w K mg base N qual (defScope st) f cdv A outer s H E).env (cxOf (L2.CX P w) P w K mg base N qual (defScope st) f cdv A outer s H E).xe →
      DS (cxOf (L2.CX P w) P w K mg base N qual (defScope st) f cdv A outer s H E) xc (fun cls d _ H => E cls d H) (defBody st) g) :
    FnOk P w K mg base (L2.CX P w) (m + 2) f fd ps (spD K xc ks (fnD n ks g)) :=
  fn_ok F S hk hn fun cdv A outer s H E hr => body cdv A outer s H E hr (Room.u65 (n := m) hr) (takes_of rfl rfl rfl rfl) (passes_of rfl)
/-- a def of the text -/
structure FnT (K : PySem.W.Frag) (mg : Str → Option Value) (x qual : Str) (st : Stmt) (f : Addr) (fd : FuncData) (ps : List Str) : Prop where
  F : Fun K x qual st f fd
  b : Binds K fd ps []
  g : mg x = some (.ref f)
/-- a class of exceptions -/
structure ExT (K : PySem.W.Frag) (mg : Str → Option Value) (x : Str) (C : Addr) : Prop where
  e : PySem.W.excIn K C [.type "ValueError", .type "Exception", .type "BaseException", .type "object"] "ValueError.__new__" = true
  g : mg x = some (.ref C)
  k : PySem.W.keepIn K (.ref C) = true
  b : PySem.W.subIn K (.ref C) (.type "BaseException") = some true
  t : PySem.W.typeIn K (.ref C) = some (.type "type")
/-- the law's own promise -/
def spLaw (K : PySem.W.Frag) : Sp := fun vs H Q _ => ∃ (a : Addr) (ns : List Int), vs = [.ref a] ∧ SqL K H a (ns.map V.int) ∧ ns.length ≤ 63 ∧ ∀ H', Q (.bl true) H'
theorem law_of {P : Program} {w : World} {K : PySem.W.Frag} {mg : Str → Option Value} {base : Heap} {xc : Nat → Addr} {f : Addr} {fd : FuncData} {ps : List Str} {k : Nat} {D : List PyData → RE PyData} (F : FnOk P w K mg base (L2.CX P w) k f fd ps (spD K xc [true] D))
    (h : ∀ ns : List Int, ns.length ≤ 63 → D [.list (ns.map .int)] = .ok (.bool true)) : FnOk P w K mg base (L2.CX P w) k f fd ps (spLaw K) := F.imp fun vs H Q E ⟨a, ns, e, hS, hl, q⟩ => by
  subst e
  refine ⟨H, [.list (ns.map .int)], .refl _, ⟨_, _, _, _, rfl, rfl, by rw [if_pos rfl]; exact .lst hS (ints_dpa ns), rfl, rfl⟩, ?_, fun d ed v F2 H2 x dv => ?_, fun y ey => ?_⟩
  · rw [h ns hl]; intro z; cases z
  · rw [h ns hl] at ed
    cases ed
    cases dv
    exact q H2
  · rw [h ns hl] at ey; cases ey
theorem cx_no {P : Program} {w : World} {H : Hp} {s : Shared} {e : Value} {s' : Shared} (h : L2.CX P w [] H s (fun _ _ _ => False) e s') : False := by
  obtain ⟨_, _, _, _, _, _, _, _, _, _, _, _, z⟩ := h
  exact z
theorem kit_VE {K : PySem.W.Frag} {D : Addr} (h : PySem.W.subIn K (.ref D) (.type "ValueError") = some true) : PySem.W.kitOne K (.ref D) (.type "ValueError") = some true := by
  unfold PySem.W.kitOne
  rw [if_neg (by simp)]
  show (if PySem.W.kitMeta "ValueError" = true then PySem.W.subIn K (.ref D) (.type "ValueError") else none) = some true
  rw [if_pos (by decide +kernel)]
  exact h
theorem kit_own {K : PySem.W.Frag} {D C : Addr} {b : Bool} (hdct : PySem.W.hasDictIn K C = true) (ht : PySem.W.typeIn K (.ref C) = some (.type "type")) (h4 : PySem.W.subIn K (.ref D) (.ref C) = some b) (h5 : PySem.W.subIn K (.ref C) (.ref C) = some true) : PySem.W.kitOne K (.ref D) (.ref C) = some b := by
  obtain ⟨cd, hc, _⟩ := PySem.W.any_some hdct
  have e2 : ((PySem.W.clsIn K C).isSome && PySem.W.typeIn K (.ref C) == some (.type "type")) = true := by rw [hc, ht] <;> rfl
  unfold PySem.W.kitOne
  by_cases e : (Value.ref D == Value.ref C) = true
  · rw [if_pos e]
    have : D = C := by simpa using e
    subst this
    rw [h5] at h4
    exact h4
  · rw [if_neg e]
    show (if ((PySem.W.clsIn K C).isSome && PySem.W.typeIn K (.ref C) == some (.type "type")) = true then PySem.W.subIn K (.ref D) (.ref C) else none) = some b
    rw [if_pos e2]
    exact h4
end VS
end
section
set_option Elab.async false
set_option linter.all false
namespace VS
open PySem L2
/-! ### one's own list, from here on never changed -/
def dFrz (i : Nat) (g : Rho → RS) : Rho → RS := fun ρ => match ρ[i]? with
  | some (some (.ow ds)) => g (ρ.set i (some (.fr (.list ds))))
  | _ => g ρ
section
variable {X : Cx} {xc : Nat → Addr} {W : WX} {g : Rho → RS} {i : Nat} {st : Stmt}
theorem ds_frz (h : DS1 X xc W st g) : DS1 X xc W st (dFrz i g) := PS.imp h fun D σ H ⟨F0, H0, ρ, F, r, hg⟩ => by
  have hg : Good X.K xc W D F0 H0 F (match ρ[i]? with | some (some (.ow ds)) => g (ρ.set i (some (.fr (.list ds)))) | _ => g ρ) := hg
  split at hg
  · rename_i ds q
    obtain ⟨a, vs, e, _, hf, fz, r2, dd⟩ := r.setZ q
    exact ⟨F0, H0, _, _, r2, hg.mono (same_upd hf)⟩
  · exact ⟨F0, H0, ρ, F, r, hg⟩
end
end VS
end
section
set_option Elab.async false
set_option linter.all false
set_option maxRecDepth 100000
set_option autoImplicit false
namespace VS
open PySem L2 PySem.W PySem.SeqAt PyProof.Rows
/-! ### sorted -/
section
variable {prog : Program} {w : World} {A : Around} {s : Shared} {E : Value → Shared → Prop}
theorem tup_lt_call {Q : Value → Shared → Prop} {l b : Addr} {us ws : Array Value} {p r : Nat → Bool} (h1 : s.heap.IsTuple l us) (h2 : s.heap.IsTuple b ws)
    (hp : ∀ j (i1 : j < us.size) (i2 : j < ws.size), EqAt A.in1 s us[j] ws[j] (p j)) (hr : ∀ j (i1 : j < us.size) (i2 : j < ws.size), p j = false → RcLt A.in1 s us[j] ws[j] (r j))
    (q : Q (.bool (firstLt p r (decide (us.size < ws.size)) (List.range (min us.size ws.size)))) s) : wpAny (model prog w) A (call (.builtin "tuple.__lt__") [.ref l, .ref b]) Q E s := by
  obtain ⟨⟨c1, d1, x1, s1⟩, o1, e1, n1, f1⟩ := id h1
  obtain ⟨⟨c2, d2, x2, s2⟩, o2, e2, n2, f2⟩ := id h2
  simp only at e1 f1 e2 f2
  subst e1 f1 e2 f2
  exact call_meets F.slot_tuple_lt ⟨_, o1, rfl⟩ F.entry_tuple_lt (F.args_tuple_lt_2 _ _) (tuple_ltAt l b us ws n1 n2 d1 d2 s1 s2 p r) ⟨o1, o2, hp, hr, q⟩
theorem oneLt_tup {xs ys : List PyData} {a b : Value} {as bs : List Addr} {Q : Bool → Shared → Prop} (ra : Reads s.heap a (.tuple xs) as) (rb : Reads s.heap b (.tuple ys) bs) (hal : alikeAll xs ys = true)
    (hu : A.units + min (PyData.depthAll xs + 1) (PyData.depthAll ys + 1) < cLine) (hq : Q (dataLt (.tuple xs) (.tuple ys)) s) : wpAny (model prog w) A (oneLt' true a b) Q E s := by
  cases ra with
  | @tuple l o us n _ as1 g1 g2 g3 g4 =>
    cases rb with
    | @tuple l2 o2 ws n2 _ bs1 k1 k2 k3 k4 =>
      have z1 : us.size = xs.length := by simpa using SeqAt.ReadsAll.length _ _ _ g4
      have z2 : ws.size = ys.length := by simpa using SeqAt.ReadsAll.length _ _ _ k4
      rw [dataLt_tuple, ← firstLt_toks xs ys hal, ← z1, ← z2] at hq
      rw [oneLt'_eq]
      simp only [if_true]
      refine wpAny_bind (wpAny_cRoomFor (Nat.lt_of_le_of_lt (Nat.le_add_right _ _) hu) ?_)
      refine wpAny_bind (wpAny_callSpecialIfBound?_slot (T := "tuple") ⟨_, g1, g2⟩ F.slot_tuple_lt (tup_lt_call (p := pairEq xs ys) (r := fun j => dataLt (xs.getD j .none) (ys.getD j .none)) ⟨_, g1, g2, _, g3⟩ ⟨_, k1, k2, _, k3⟩ (fun j j1 j2 => ?_) (fun j j1 j2 hj => ?_) ?_))
      · have := eqAt_alikeAll xs ys A.in1 s us.toList ws.toList _ _ g4 k4 hal (room_in hu) j (by simpa using j1) (by simpa using j2)
        simpa using this
      · have := rcLt_alikeAll xs ys A.in1 s us.toList ws.toList _ _ g4 k4 hal (room_in hu) j (by simpa using j1) (by simpa using j2) hj
        simpa using this
      · exact wpAny_truthy_bool hq
theorem mapM_some {α β : Type} {f : α → Sem β} : ∀ (l : List α) {Q : List β → Shared → Prop}, (∀ v ∈ l, ∃ y, ∀ (Q' : β → Shared → Prop), Q' y s → wpAny (model prog w) A (f v) Q' E s) → (∀ ys, Q ys s) → wpAny (model prog w) A (l.mapM f) Q E s
  | [], _, _, h => by rw [List.mapM_nil]; exact wpAny_pure (h _)
  | x :: l, Q, hf, h => by
    rw [List.mapM_cons]
    obtain ⟨y, hy⟩ := hf x (.head _)
    exact wpAny_bind (hy _ (wpAny_bind (mapM_some l (fun v hv => hf v (.tail _ hv)) fun ys => wpAny_pure (h _))))
theorem kind_tup0 {v : Value} {rest : List Value} {Q : SortKind → Shared → Prop} (h0 : ∃ a o, v = .ref a ∧ s.heap.get? a = some o ∧ o.cls = .type "tuple" ∧ ∃ n, o.data = .seq #[] n) (ht : ∀ u ∈ rest, ∃ a o, u = .ref a ∧ s.heap.get? a = some o ∧ o.cls = .type "tuple" ∧ ∃ us n, o.data = .seq us n) (h : Q oneType' s) :
    wpAny (model prog w) A (keyKind' (v :: rest).toArray) Q E s := by
  obtain ⟨a0, o0, rfl, g0, c0, n0, d0⟩ := h0
  rw [keyKind'_eq, List.mapM_toArray, map_eq_pure_bind]
  have tt : (Value.type "tuple" != Value.type "tuple") = false := by rfl
  refine wpAny_bind (wpAny_bind ?_)
  rw [List.mapM_cons]
  refine wpAny_bind ?_
  rw [kas_first_eq]
  refine wpAny_bind (wpAny_typeOf (T := "tuple") ⟨o0, g0, c0⟩ ?_)
  rw [if_neg (by rw [tt]; simp)]
  refine wpAny_bind (listItems_at g0 d0 ?_)
  refine wpAny_pure ?_
  refine wpAny_bind (mapM_some rest (fun u hu => ?_) fun ys => ?_)
  · obtain ⟨a, o, rfl, g, c, us, n, d⟩ := ht u hu
    refine ⟨us[0]?, fun Q' q => ?_⟩
    rw [kas_first_eq]
    refine wpAny_bind (wpAny_typeOf (T := "tuple") ⟨o, g, c⟩ ?_)
    rw [if_neg (by rw [tt]; simp)]
    exact wpAny_bind (listItems_at g d (wpAny_pure q))
  · refine wpAny_pure (wpAny_pure ?_)
    rw [if_neg (by simp), if_neg (by simp)]
    rw [oneTypeOnly'_eq, List.mapM_toArray, map_eq_pure_bind]
    have hT : ∀ u ∈ (Value.ref a0 :: rest), ∀ (Q' : Value → Shared → Prop), Q' (.type "tuple") s → wpAny (model prog w) A (typeOf u) Q' E s := by
      intro u hu Q' q
      rcases List.mem_cons.mp hu with rfl | hu
      · exact wpAny_typeOf (T := "tuple") ⟨o0, g0, c0⟩ q
      · obtain ⟨a, o, rfl, g, c, _⟩ := ht u hu
        exact wpAny_typeOf (T := "tuple") ⟨o, g, c⟩ q
    refine wpAny_bind (wpAny_bind (wpAny_bind (kas_mapM (r := Value.type "tuple") _ hT (wpAny_pure ?_))))
    have e0 : (List.map (fun _ => Value.type "tuple") (Value.ref a0 :: rest)).toArray[0]? = some (Value.type "tuple") := by simp
    have e1 : ((List.map (fun _ => Value.type "tuple") (Value.ref a0 :: rest)).toArray.all fun x => x == Value.type "tuple") = true := by
      simp only [List.all_toArray, List.all_map, List.all_eq_true]
      intro _ _
      rfl
    rw [e0]
    simp only [e1, if_true]
    exact wpAny_pure (wpAny_pure h)
/-- what can be sorted: alike, and the kind of comparison is known -/
def sortB (ds : List PyData) : Bool := ds.all (fun d => ds.all fun e => alike d e) && ds.all (fun d => decide (d.depth ≤ 8)) && decide (ds.length ≤ lim) &&
  (ds.all (fun d => match d with | .tuple (_ :: _) => true | _ => false) || ds.all (fun d => match d with | .int _ => true | .str _ => true | _ => false) ||
    (match ds with | .tuple [] :: _ => ds.all (fun d => match d with | .tuple _ => true | _ => false) | _ => false))
theorem reads_tup {h : Heap} {v : Value} {xs : List PyData} {as : List Addr} (r : Reads h v (.tuple xs) as) : ∃ a o, v = .ref a ∧ h.get? a = some o ∧ o.cls = .type "tuple" ∧ ∃ us n, o.data = .seq us n ∧ us.size = xs.length := by
  cases r with
  | @tuple l o us n _ as1 g1 g2 g3 g4 => exact ⟨l, o, rfl, g1, g2, us, n, g3, by simpa using SeqAt.ReadsAll.length _ _ _ g4⟩
theorem sortB_alike {ds : List PyData} (h : sortB ds = true) : AllAlike ds := by
  simp only [sortB, Bool.and_eq_true, List.all_eq_true] at h
  exact fun d hd e he => h.1.1.1 d hd e he
theorem sortB_depth {ds : List PyData} (h : sortB ds = true) : ∀ d ∈ ds, d.depth ≤ 8 := by
  simp only [sortB, Bool.and_eq_true, List.all_eq_true, decide_eq_true_eq] at h
  exact h.1.1.2
theorem sortB_len {ds : List PyData} (h : sortB ds = true) : ds.length ≤ lim := by
  simp only [sortB, Bool.and_eq_true, decide_eq_true_eq] at h
  exact h.1.2
theorem sortB_kind {ds : List PyData} (h : sortB ds = true) : Sortable ds ∨ ∃ es, ds = .tuple [] :: es ∧ ∀ d ∈ ds, ∃ xs, d = .tuple xs := by
  simp only [sortB, Bool.and_eq_true, Bool.or_eq_true] at h
  rcases h.2 with (h | h) | h
  · refine .inl (.inl fun d hd => ?_)
    have := List.all_eq_true.mp h d hd
    split at this
    · exact ⟨_, _, rfl⟩
    · cases this
  · refine .inl (.inr fun d hd => ?_)
    have := List.all_eq_true.mp h d hd
    split at this
    · exact ⟨fun z => (by cases z), fun _ z => (by cases z)⟩
    · exact ⟨fun z => (by cases z), fun _ z => (by cases z)⟩
    · cases this
  · split at h
    · refine .inr ⟨_, rfl, fun d hd => ?_⟩
      have := List.all_eq_true.mp h d hd
      split at this
      · exact ⟨_, rfl⟩
      · cases this
    · cases h
theorem sortsAt_any {vs : List Value} {ds : List PyData} (e : EachIs (fun v d => ∃ as, Reads s.heap v d as) vs ds) (hb : sortB ds = true) (hu : ∀ d, d ∈ ds → A.units + d.depth < cLine) : SortsAt prog w A s (dataKind s.heap ds) vs := by
  rcases sortB_kind hb with hk | ⟨es, rfl, ht⟩
  · exact SortsAt.data e (sortB_alike hb) hk hu
  · have hal := sortB_alike hb
    refine ⟨fun v hv => ?_, oneType', ?_, fun h2 E Q hq => ?_⟩
    · obtain ⟨d, hd, as, r⟩ := e.left v hv
      exact ⟨_, dataKind_some hal hd r⟩
    · intro E x y a b Q ha hb hq
      obtain ⟨d, as, hd, ra, rfl⟩ := dataKind_inv ha
      obtain ⟨d', as', hd', rb, rfl⟩ := dataKind_inv hb
      rw [keyLt'_oneType]
      have hdd := hal d hd d' hd'
      have hur := hu d hd
      obtain ⟨xs, rfl⟩ := ht d hd
      obtain ⟨ys, rfl⟩ := ht d' hd'
      simp only [PyData.depth] at hur
      exact oneLt_tup ra rb (by simpa [alike] using hdd) (Nat.lt_of_le_of_lt (Nat.add_le_add_left (Nat.min_le_left _ _) _) hur) hq
    · cases e with
      | @cons v d vs ds h1 h3 =>
        obtain ⟨as, r⟩ := h1
        obtain ⟨a, o, rfl, g, c, us, n, dd, z⟩ := reads_tup r
        have hus : us = #[] := Array.eq_empty_of_size_eq_zero z
        subst hus
        refine kind_tup0 ⟨a, o, rfl, g, c, n, dd⟩ (fun u hu' => ?_) hq
        obtain ⟨d', hd', as', r'⟩ := h3.left u hu'
        obtain ⟨xs, rfl⟩ := ht d' (List.mem_cons_of_mem _ hd')
        obtain ⟨a', o', rfl, g', c', us', n', dd', _⟩ := reads_tup r'
        exact ⟨a', o', rfl, g', c', us', n', dd'⟩
theorem sorted_seq {R : Value → PyData → Prop} {it : Addr} {T : String} {o : Obj} {us : Array Value} {n : Nat} {ds : List PyData} {Q : Value → Shared → Prop} (hT : T = "list" ∨ T = "tuple")
    (ho : s.heap.get? it = some o) (hc : o.cls = .type T) (hd : o.data = .seq us n) (e : EachIs R us.toList ds) (er : EachIs (fun v d => ∃ as, Reads s.heap v d as) us.toList ds) (hb : sortB ds = true) (hu : A.units + 10 < cLine)
    (h : ∀ (h1 h' : Heap) (out : List Value) (m : Nat), (∀ b u, s.heap.get? b = some u → h1.get? b = some u) → (∀ b u, h1.get? b = some u → h'.get? b = some u) → h'.get? h1.objs.size = some (seqObj "list" out.toArray m) → EachIs R out (ds.mergeSort (dataLe false id)) → Q (.ref h1.objs.size) { s with heap := h' }) :
    wpAny (model prog w) A (call (.builtin "sorted") [.ref it]) Q E s := by
  have hlen : us.toList.length = ds.length := e.length
  have hsz : us.size ≤ sizeLine := by
    have := sortB_len hb
    rw [← Array.length_toList, hlen]
    exact le_lim this
  refine Calls.call_function_entry kind_sorted plain_sorted entry_sorted (args_sorted1 _) ?_
  unfold Builtin.«sorted»
  refine wpAny_bind (m := checkCount "sorted" 1 1 _) (wpAny_pure ?_)
  refine wpAny_bind (wpAny_collect_seq it hT ho hc hd (fun h1 k1 => ?_) hsz)
  refine wpAny_bind (wpAny_newList ?_ (by rw [Array.length_toList]; exact hsz))
  have a1 : (h1.push (seqObj "list" us.toList.toArray 0)).get? h1.objs.size = some (seqObj "list" us.toList.toArray 0) := Heap.get?_push_size _ rfl
  refine wpAny_bind (wpAny_holding (wpAny_call_entry_kw slot_list_sort ⟨_, a1, rfl⟩ entry_list_sort ?body (args_list_sort _)))
  case body =>
    have k2 : ∀ b u, h1.get? b = some u → (sortingHeap (h1.push (seqObj "list" us.toList.toArray 0)) h1.objs.size us.toList).get? b = some u := fun b u q =>
      sortingHeap_old (Nat.ne_of_lt (Heap.lt_size q)) (Heap.get?_push_of_some _ q)
    have er' : EachIs (fun v d => ∃ as, Reads (sortingHeap (h1.push (seqObj "list" us.toList.toArray 0)) h1.objs.size us.toList) v d as) us.toList ds :=
      er.mono fun _ _ ⟨as, r⟩ => ⟨as, PyProof.Rows.Reads.keeps (fun b u q => k2 b u (k1 b u q)) r⟩
    have S : SortsAt prog w A.in1.in1 { s with heap := sortingHeap (h1.push (seqObj "list" us.toList.toArray 0)) h1.objs.size us.toList } (dataKind (sortingHeap (h1.push (seqObj "list" us.toList.toArray 0)) h1.objs.size us.toList) ds) us.toList :=
      sortsAt_any er' hb fun d hd => by
        have := sortB_depth hb d hd
        have hin : A.in1.in1.units = A.units + 2 := rfl
        rw [hin]
        omega
    refine list_sort_vals (s := { s with heap := h1.push (seqObj "list" us.toList.toArray 0) }) a1 S (by rw [Array.length_toList]; exact hsz) ?_
    refine ⟨_, rfl, wpAny_pure ⟨_, rfl, ?_⟩⟩
    obtain ⟨m, hm⟩ := sortedHeap_at (out := (sortVals (dataKind (sortingHeap (h1.push (seqObj "list" us.toList.toArray 0)) h1.objs.size us.toList) ds) false us.toList us.toList).toArray) a1
    refine h h1 _ _ m k1 (fun b u q => ?_) hm ?_
    · rw [sortedHeap_old (Nat.ne_of_lt (Heap.lt_size q)) (Heap.lt_size (Heap.get?_push_of_some _ q))]
      exact Heap.get?_push_of_some _ q
    · have := sortVals_data (enc := id) false e er' (by rw [List.map_id]; exact sortB_alike hb)
      rw [List.map_id] at this
      exact this
end
end VS
end
section
set_option Elab.async false
set_option linter.all false
set_option maxRecDepth 100000
set_option autoImplicit false
namespace VS
open PySem L2 PySem.W PySem.SeqAt PyProof.Rows
theorem each_of {K : PySem.W.Frag} {X : Cx} {pins : List (Addr × Obj)} {σ : L2.St} {H : Hp} {s : Shared} (I : Inv X pins σ H s) : ∀ {xs : List V} {us : List Value} {ds : List PyData}, Vals xs us → DpAll X.K H xs ds → EachIs (fun v d => ∃ as, Reads s.heap v d as) us ds
  | _, _, _, .nil, .nil => .nil
  | _, _, _, .cons r rs, .cons h t => .cons (Dp.reads I _ _ _ h r) (each_of (K := K) I rs t)
theorem each_zip : ∀ {xs : List V} {us : List Value} {ds : List PyData}, Vals xs us → xs.length = ds.length → EachIs (fun u d => ∃ x, (x, d) ∈ xs.zip ds ∧ RelV x u) us ds
  | _, _, [], .nil, _ => .nil
  | _, _, _ :: _, .nil, h => by cases h
  | _, _, [], .cons _ _, h => by cases h
  | _, _, d :: ds, .cons r rs, h => .cons ⟨_, List.mem_cons_self .., r⟩ ((each_zip rs (Nat.succ.inj h)).mono fun _ _ ⟨x, h1, h2⟩ => ⟨x, List.mem_cons_of_mem _ h1, h2⟩)
theorem each_back {P : V → PyData → Prop} : ∀ {us : List Value} {ds : List PyData}, EachIs (fun u d => ∃ x, P x d ∧ RelV x u) us ds → ∃ ys, Vals ys us ∧ EachIs P ys ds
  | _, _, .nil => ⟨[], .nil, .nil⟩
  | _, _, .cons ⟨x, h1, h2⟩ t => by
    obtain ⟨ys, r, e⟩ := each_back t
    exact ⟨x :: ys, .cons h2 r, .cons h1 e⟩
theorem dqa_len {K : PySem.W.Frag} {H : Hp} {xs : List V} {ds : List PyData} (h : DqAll K H xs ds) : xs.length = ds.length := dpa_length h
theorem dqa_mem {K : PySem.W.Frag} {H : Hp} : ∀ {xs : List V} {ds : List PyData}, DqAll K H xs ds → ∀ {x : V} {d : PyData}, (x, d) ∈ xs.zip ds → Dq K H x d
  | _, _, .nil, _, _, h => by simp at h
  | _, _, .cons h t, x, d, hm => by
    rw [List.zip_cons_cons] at hm
    rcases List.mem_cons.mp hm with q | q
    · cases q; exact h
    · exact dqa_mem t q
theorem dqa_each {K : PySem.W.Frag} {H : Hp} {xs : List V} {ds : List PyData} (h : DqAll K H xs ds) : ∀ {ys : List V} {es : List PyData}, EachIs (fun y d => (y, d) ∈ xs.zip ds) ys es → DqAll K H ys es
  | _, _, .nil => .nil
  | _, _, .cons h1 t => .cons (dqa_mem h h1) (dqa_each h t)
def sortedL (ds : List PyData) : List PyData := ds.mergeSort (dataLe false id)
def rSortD (K : PySem.W.Frag) : List V → Hp → VK → Prop := fun vs H Q => ∃ a xs ds, vs = [.ref a] ∧ (SqL K H a xs ∨ SqT K H a xs) ∧ DpAll K H xs ds ∧ sortB ds = true ∧
  ∀ ys p, H p = none → EachIs (fun y d => (y, d) ∈ xs.zip ds) ys (sortedL ds) → Q (.ref p) (upd H p (.lst ys))
section
variable {X : Cx} {xc : Nat → Addr} {W : WX} {e : Expr} {g : Rho → RE PyData} {pos p : Pos}
theorem dpa_len {K : PySem.W.Frag} {H : Hp} : ∀ {xs : List V} {ds : List PyData}, DpAll K H xs ds → xs.length = ds.length
  | _, _, .nil => rfl
  | _, _, .cons _ t => congrArg Nat.succ (dpa_len t)
theorem cr_sortD (hu : X.A.units + 65 < cLine) : CallR X (.builtin "sorted") (rSortD X.K) := by
  intro pins s σ H vs us Q I r h
  obtain ⟨a, xs, ds, rfl, hs, hd, hb, q⟩ := h
  rw [Vals.ref1 r]
  have hl := dpa_len hd
  have fin : ∀ (its : List Value) (T : String) (o : Obj) (n : Nat), T = "list" ∨ T = "tuple" → s.heap.get? a = some o → o.cls = .type T → o.data = .seq its.toArray n → Vals xs its →
      wpAny (model X.prog X.w) X.A (call (.builtin "sorted") [.ref a]) (EP X pins σ Q) X.xe s := by
    intro its T o n hT ho hc hdt rv
    refine sorted_seq (R := fun u d => ∃ x, (x, d) ∈ xs.zip ds ∧ RelV x u) hT ho hc hdt (each_zip rv hl) (each_of (K := X.K) I rv hd) hb (by omega) ?_
    intro h1 h' out m k1 k2 hat hout
    obtain ⟨ys, rys, he⟩ := each_back hout
    have I1 : Inv X pins σ H { s with heap := h1 } := I.kept (t' := s.toks) k1
    have hlen : ys.length ≤ sizeLine := by
      have e1 : ys.length = (sortedL ds).length := he.length
      have e2 : (sortedL ds).length = ds.length := (List.mergeSort_perm _ _).length_eq
      rw [e1, e2]
      exact le_lim (sortB_len hb)
    exact ⟨.ref h1.objs.size, upd H h1.objs.size (.lst ys), I1.laid (t' := s.toks) k2 (Nat.le_refl _) ⟨hlen, out, m, rys, hat⟩, rfl, q ys _ (I1.hok.fresh (Nat.le_refl _)) he⟩
  rcases hs with hs | hs
  · obtain ⟨its, rv, ⟨o, n, ho, hc, _, hdt⟩, _⟩ := I.list hs
    exact fin its "list" o n (.inl rfl) ho hc hdt rv
  · obtain ⟨its, rv, ⟨o, ho, hc, n, hdt⟩, _⟩ := I.tuple hs
    exact fin its "tuple" o n (.inr rfl) ho hc hdt rv
def sortD : PyData → Option PyData
  | .list xs => if sortB xs = true then some (.list (sortedL xs)) else none
  | .tuple xs => if sortB xs = true then some (.list (sortedL xs)) else none
  | _ => none
theorem sortD_ok {K : PySem.W.Frag} : C1Ok K (rSortD K) kN sortD := by
  intro F H x d z Q sm hx ho hq
  unfold sortD at ho
  split at ho
  · rename_i xs
    split at ho
    · rename_i hb
      cases ho
      obtain ⟨a, vs, rfl, h1, h2⟩ := hx.lst sm
      refine ⟨a, vs, xs, rfl, .inl h1, (dpa_mono sm h2).dp, hb, fun ys p hp he => hq _ F _ (.own sm hp) ⟨p, ys, _, rfl, rfl, hp, sm.free hp, upd_same, dqa_each h2 he⟩⟩
    · cases ho
  · rename_i xs
    split at ho
    · rename_i hb
      cases ho
      obtain ⟨a, vs, rfl, h1, h2⟩ := hx.tup sm
      refine ⟨a, vs, xs, rfl, .inr (sqn_mono sm h1).sq, (dpa_mono sm h2).dp, hb, fun ys p hp he => hq _ F _ (.own sm hp) ⟨p, ys, _, rfl, rfl, hp, sm.free hp, upd_same, dqa_each h2 he⟩⟩
    · cases ho
  · cases ho
theorem de_sorted (hu : X.A.units + 65 < cLine) (hg : Gl X "sorted") (hm : X.mg "sorted" = none) (h : DE X xc W kE e g) (hst : starEach [e] X.env = (false, eval e X.env) :: starEach [] X.env := by rfl) : DE X xc W kN (.Call (.Name "sorted" p) [e] [] pos) (dUn sortD g) :=
  de_cB kN_back sortD_ok (cr_sortD hu) hg hm boot_sorted h (by decide) (by decide) hst
end
end VS
end
section
set_option Elab.async false
set_option linter.all false
set_option maxRecDepth 100000
set_option autoImplicit false
namespace VS
open PySem L2 PySem.W PySem.SeqAt PyProof.Rows
/-! ### a list or a tuple that is walked -/
def Sq2 (K : PySem.W.Frag) (k : Bool) (H : Hp) (a : Addr) (xs : List V) : Prop := cond k (SqL K H a xs) (SqT K H a xs)
def ItOf (k : Bool) (h : Heap) (it a : Addr) (i : Nat) : Prop := cond k (h.IsListIter it a i) (h.IsTupleIter it a i)
def SeqOf (k : Bool) (h : Heap) (a : Addr) (us : Array Value) : Prop := cond k (h.IsList a us) (h.IsTuple a us)
def itObj (k : Bool) (a : Addr) : Obj := { cls := .type (cond k "list_iterator" "tuple_iterator"), data := .fields #[.ref a, .int 0 0] }
theorem draws2 {prog : Program} {w : World} {A : Around} (hh : A.handled = none) (k : Bool) (it a : Addr) (hne : a ≠ it) (us : Array Value) (m : Nat) :
    Draws prog w A it [it, a] (us.size - m) (fun i v => us[m + i]? = some v) (fun i h => ItOf k h it a (m + i) ∧ SeqOf k h a us) := by
  cases k with
  | true => exact {
      live := fun _ _ st => let ⟨o, ho, _⟩ := st.1; ⟨o, ho⟩
      frame := fun _ _ _ st hk => ⟨Heap.IsListIter.at st.1 fun o e => hk it (by simp) o e, Heap.IsList.at st.2 fun o e => hk a (by simp) o e⟩
      item := fun i s Q E hi st hQ => wpAny_nextOf_list_item st.1 st.2 (x := us[m + i]) (by simp) fun h' hit' hs' => hQ _ h' s.toks (by simp) ⟨hit', Heap.IsList.extBut st.2 hs'.extBut hne⟩ hs'
      done := fun s Q E st hE => wpAny_nextOf_list_end hh st.1 st.2 (by simp; omega) hE }
  | false => exact {
      live := fun _ _ st => let ⟨o, ho, _⟩ := st.1; ⟨o, ho⟩
      frame := fun _ _ _ st hk => ⟨Heap.IsTupleIter.at st.1 fun o e => hk it (by simp) o e, Heap.IsTuple.at st.2 fun o e => hk a (by simp) o e⟩
      item := fun i s Q E hi st hQ => wpAny_nextOf_tuple_item st.1 st.2 (x := us[m + i]) (by simp) fun h' hit' hs' => hQ _ h' s.toks (by simp) ⟨hit', Heap.IsTuple.extBut st.2 hs'.extBut hne⟩ hs'
      done := fun s Q E st hE => wpAny_nextOf_tuple_end hh st.1 st.2 (by simp; omega) hE }
theorem sq2_seq {X : Cx} {pins : List (Addr × Obj)} {σ : L2.St} {H : Hp} {s : Shared} (I : Inv X pins σ H s) {k : Bool} {a : Addr} {xs : List V} (h : Sq2 X.K k H a xs) : ∃ its, Vals xs its ∧ SeqOf k s.heap a its.toArray ∧ xs.length ≤ sizeLine := by
  cases k with
  | true =>
    obtain ⟨its, rv, p, hz⟩ := I.list h
    exact ⟨its, rv, p.isList, hz⟩
  | false =>
    obtain ⟨its, rv, p, hz⟩ := I.tuple h
    exact ⟨its, rv, p, hz⟩
theorem sq2_inj {X : Cx} {pins : List (Addr × Obj)} {σ : L2.St} {H : Hp} {s : Shared} (I : Inv X pins σ H s) {k : Bool} {a : Addr} {xs ys : List V} (h : Sq2 X.K k H a xs) (h' : Sq2 X.K k H a ys) : xs = ys := by
  cases k with
  | true => exact I.list_inj h h'
  | false => exact I.tuple_inj h h'
theorem itOf_obj {k : Bool} {h : Heap} {it a : Addr} {i : Nat} (q : ItOf k h it a i) : ∃ o, h.get? it = some o ∧ o.cls = .type (cond k "list_iterator" "tuple_iterator") ∧ ∃ vs, o.data = .fields vs := by
  cases k with
  | true =>
    obtain ⟨o, ho, hc, hd⟩ := q
    exact ⟨o, ho, hc, _, hd⟩
  | false =>
    obtain ⟨o, ho, hc, hd⟩ := q
    exact ⟨o, ho, hc, _, hd⟩
theorem itOf_at {k : Bool} {h h' : Heap} {it a : Addr} {i : Nat} (q : ItOf k h it a i) (kp : ∀ o, h.get? it = some o → h'.get? it = some o) : ItOf k h' it a i := by
  cases k with
  | true => exact Heap.IsListIter.at q kp
  | false => exact Heap.IsTupleIter.at q kp
theorem seqOf_obj {k : Bool} {h : Heap} {a : Addr} {us : Array Value} (q : SeqOf k h a us) : ∃ o, h.get? a = some o ∧ o.cls = .type (cond k "list" "tuple") := by
  cases k with
  | true =>
    obtain ⟨o, ho, hc, _⟩ := q
    exact ⟨o, ho, hc⟩
  | false =>
    obtain ⟨o, ho, hc, _⟩ := q
    exact ⟨o, ho, hc⟩
theorem apart_cls {h : Heap} {a b : Addr} {o o' : Obj} {S T : String} (h1 : h.get? a = some o) (c1 : o.cls = .type S) (h2 : h.get? b = some o') (c2 : o'.cls = .type T) (hne : S ≠ T) : a ≠ b := by
  rintro rfl
  rw [h1] at h2
  cases h2
  rw [c1] at c2
  cases c2
  exact hne rfl
theorem it_ne {k : Bool} {h : Heap} {it a : Addr} {i : Nat} {us : Array Value} (q : ItOf k h it a i) (p : SeqOf k h a us) : a ≠ it := by
  obtain ⟨o, ho, hc, _⟩ := itOf_obj q
  obtain ⟨o', ho', hc'⟩ := seqOf_obj p
  exact apart_cls ho' hc' ho hc (by cases k <;> decide)
/-- its items, each with its number in a new pair -/
def Ien (K : PySem.W.Frag) (k : Bool) (a : Addr) : It :=
  ⟨fun i H => ∃ (xs : List V) (x : V), Sq2 K k H a xs ∧ xs[i]? = some x, fun i H v H' => ∃ T us x, v = .ref T ∧ H T = none ∧ H' = upd H T (tupN us [.int (i : Nat), x]) ∧ ∀ xs, Sq2 K k H a xs → xs[i]? = some x, fun i H => ∃ xs : List V, Sq2 K k H a xs ∧ xs.length ≤ i⟩
theorem turn_en {P : Program} {w : World} {K : PySem.W.Frag} {elts : List Expr} {kk : Nat} {tpos : Pos} (k : Bool) (a e it : Addr) :
    Turn P w K (.Tuple elts kk tpos) (Ien K k a) [e, it] e (fun i h => (∃ old, IsEnum h e it ((i : Nat) : Int) old) ∧ ItOf k h it a i ∧ e ≠ it) where
  mem := by simp
  obj := fun i h st b hb => by
    obtain ⟨⟨old, he⟩, hi, _⟩ := st
    rcases List.mem_cons.mp hb with z | hb
    · rw [z]; exact ⟨_, he, fun v q => nomatch q⟩
    · obtain ⟨o, ho, _, vs, hd⟩ := itOf_obj hi
      rw [List.mem_singleton.mp hb]; exact ⟨o, ho, fun v q => by rw [hd] at q; cases q⟩
  keep := fun i h h' st kp => let ⟨⟨old, he⟩, hi, hne⟩ := st; ⟨⟨old, kp e (by simp) _ he⟩, itOf_at hi fun o q => kp it (by simp) o q, hne⟩
  item := by
    intro X hP hw hK hc i pins s σ H E I hf st hg
    subst hP hw hK
    obtain ⟨⟨old, he⟩, hit, hne⟩ := st
    obtain ⟨xs, x, hq, hx⟩ := hg
    obtain ⟨its, rv, p, hz⟩ := sq2_seq I hq
    obtain ⟨u, hu, ru⟩ := rv.get hx
    have hel : e < s.heap.objs.size := Heap.lt_size he
    have hil : it < s.heap.objs.size := by obtain ⟨_, q, _⟩ := itOf_obj hit; exact Heap.lt_size q
    have hlt : i < its.toArray.size := by
      have := (List.getElem?_eq_some_iff.mp hu).1
      simpa using this
    have hea : e ∉ [it, a] := by
      intro z
      rcases List.mem_cons.mp z with z | z
      · exact hne z
      · obtain ⟨o', ho', hc'⟩ := seqOf_obj p
        exact apart_cls he rfl ho' hc' (by cases k <;> decide) (List.mem_singleton.mp z)
    refine wpAny_pyNext_enum_itemC (i := 0) (draws2 (A := X.A.in1) (show X.A.in1.handled = none from I.ok.hd hc) k it a (it_ne hit p) its.toArray i) he ⟨hit, p⟩ (by omega) hne hea fun y h' tk hy ho st' hT hsz hk => ?_
    have ey : y = u := by
      have : its.toArray[i]? = some u := by simpa using hu
      rw [Nat.add_zero, this] at hy
      exact (Option.some.inj hy).symm
    subst ey
    refine ⟨_, rfl, wpAny_letOwnedTupleGo_enum (s := { s with heap := h', toks := tk + 1 }) ho fun h'' he' sb => ?_⟩
    have hT2 : h''.get? s.heap.objs.size = some { cls := .type "tuple", data := .seq [Value.int i tk, y].toArray } := (sb.2 _ (Nat.ne_of_gt hel)).trans hT
    have new : ObjOk X.prog X.w (upd H s.heap.objs.size (tupN [.int i tk, y] [.int (i : Nat), x])) h'' s.heap.objs.size (tupN [.int i tk, y] [.int (i : Nat), x]) :=
      ⟨hT2, by show 2 ≤ sizeLine; decide, [.int i tk, y], .cons ⟨_, rfl⟩ (.cons ru .nil), ⟨_, hT2, rfl, _, rfl⟩⟩
    have I1 : Inv X pins σ (upd H s.heap.objs.size (tupN [.int i tk, y] [.int (i : Nat), x])) { s with heap := h'', toks := tk + 1 } :=
      I.turnedNew (ch := [e, it]) (fun b ob hb q => (sb.2 b (fun z => hb (by simp [z]))).trans (hk b ob (fun z => hb (by simp [z])) (fun z => hb (by simp [z])) q)) hf (Nat.le_refl _) new
    refine ⟨.ref s.heap.objs.size, _, I1, rfl, ⟨_, _, x, rfl, I.hok.fresh (Nat.le_refl _), rfl, fun ys hy => by rw [sq2_inj I hy hq]; exact hx⟩, ⟨⟨y, ?_⟩, itOf_at st'.1 fun o q => (sb.2 it (Ne.symm hne)).trans q, hne⟩, fun b hb => ?_⟩
    · have e1 : ((i + 1 : Nat) : Int) = (i : Int) + 1 := by omega
      rw [e1]; exact he'
    · have hb' : b < s.heap.objs.size := by
        rcases List.mem_cons.mp hb with z | z
        · rw [z]; exact hel
        · rw [List.mem_singleton.mp z]; exact hil
      rw [upd_ne (Nat.ne_of_lt hb')]
      exact (hf b hb).1
  done := by
    intro X hP hw hK hc i pins s σ H E I hf st hg
    subst hP hw hK
    obtain ⟨⟨old, he⟩, hit, hne⟩ := st
    obtain ⟨xs, hq, hx⟩ := hg
    obtain ⟨its, rv, p, hz⟩ := sq2_seq I hq
    have hl := rv.length
    obtain ⟨f0, f1, f2, f3, f4, f5⟩ := hf it (by simp)
    have hn : its.toArray.size - i = 0 := by simp; omega
    refine wpAny_pyNext_enum_endD (draws2 (A := X.A.in1) (show X.A.in1.handled = none from I.ok.hd hc) k it a (it_ne hit p) its.toArray i) he (by rw [hn]; exact ⟨hit, p⟩) fun h' eb => ⟨rfl, I.turned (t' := s.toks) (fun b o hb q => eb b o hb q) f0 f1 f3 f4 f5⟩
  self := fun A i s Q E st h => let ⟨⟨_, he⟩, _⟩ := st; wpAny_pyIter_enum he h
/-! enumerate(v) begins -/
set_option maxHeartbeats 1000000 in
theorem enum_newB {v : Value} {o : Obj} {HH : Heap → Prop} (B : Begins v o HH) :
    Meets (Builtin.«enumerate.__new__» ⟨[.type "enumerate", v], []⟩) (fun _ R s => HH s.heap ∧
      R (.ok (.ret (.ref (s.heap.push o).objs.size))) { s with heap := (s.heap.push o).push { cls := .type "enumerate", data := .fields #[.none, .bool false, .ref s.heap.objs.size, rawInt 0, .none, .none] } }) :=
  .of_wp fun prog w A R s h => by
    obtain ⟨hp, g, d, tk, os⟩ := s
    obtain ⟨b1, b2⟩ := h
    have hsub := sub_enumerate
    have q1 : ∀ {A' : Around} {E : Value → Shared → Prop} {Q : Value → Shared → Prop}, Q (.ref hp.objs.size) ⟨hp.push o, g, d, tk, os⟩ → wpAny (model prog w) A' (pyIter v) Q E ⟨hp, g, d, tk, os⟩ :=
      fun q => B.iter prog w _ _ ⟨hp, g, d, tk, os⟩ _ b1 q
    wp_walk using q1
    refine wpAny_stack_any fun st => wpAny_pure ?_
    split
    · rename_i c _ _ _ _ _
      cases (c == Value.type "enumerate")
      · wp_walk using q1
        exact ⟨_, rfl, b2⟩
      · wp_walk using q1
        exact ⟨_, rfl, b2⟩
    · wp_walk using q1
      exact ⟨_, rfl, b2⟩
theorem enum_call {prog : Program} {w : World} {A : Around} {E : Value → Shared → Prop} {s : Shared} {v : Value} {o : Obj} {HH : Heap → Prop} {Q : Value → Shared → Prop} (B : Begins v o HH) (b1 : HH s.heap)
    (q : ∀ h', IsEnum h' (s.heap.objs.size + 1) s.heap.objs.size 0 .none → h'.get? s.heap.objs.size = some o → (∀ b u, s.heap.get? b = some u → h'.get? b = some u) → Q (.ref (s.heap.objs.size + 1)) { s with heap := h' }) :
    wpAny (model prog w) A (call (.type "enumerate") [v]) Q E s := by
  refine callType_new F.called_enumerate (by decide) (F.typeCall_enumerate_1 _) (F.newCall_enumerate_1 _) (fun obj => F.args_object_init_2 obj _) F.entry_enumerate_new (enum_newB B) ⟨b1, ?_⟩
  have z1 : (s.heap.push o).objs.size = s.heap.objs.size + 1 := Heap.size_push ..
  have he := Heap.get?_push_size (s.heap.push o) (o := { cls := .type "enumerate", data := .fields #[.none, .bool false, .ref s.heap.objs.size, rawInt 0, .none, .none] }) rfl
  rw [z1] at he
  show _ ∧ _
  rw [z1]
  exact ⟨⟨_, he, rfl⟩, q _ he (Heap.get?_push_of_some _ (Heap.get?_push_size _ B.free)) fun b u x => Heap.get?_push_of_some _ (Heap.get?_push_of_some _ x)⟩
theorem begins2 (k : Bool) (a : Addr) (us : Array Value) : Begins (.ref a) (itObj k a) fun h => SeqOf k h a us := by
  cases k with
  | true => exact begins_list a us
  | false => exact begins_tuple a us
theorem itOf_new {k : Bool} {h : Heap} {it a : Addr} (q : h.get? it = some (itObj k a)) : ItOf k h it a 0 := by
  cases k with
  | true => exact ⟨_, q, rfl, rfl⟩
  | false => exact ⟨_, q, rfl, rfl⟩
theorem pi_en {X : Cx} {e : Expr} {ta : TA} {p pos tpos : Pos} {elts : List Expr} {kk : Nat} (hg : Gl X "enumerate") (hm : X.mg "enumerate" = none) (ha : PA X [e] ta) (hs : starEach [e] X.env = [(false, eval e X.env)] := by rfl) :
    PI X (.Tuple elts kk tpos) (.Call (.Name "enumerate" p) [e] [] pos) (fun σ H R => ta σ H fun vs H1 => ∃ k a xs, vs = [.ref a] ∧ Sq2 X.K k H1 a xs ∧ R (Ien X.K k a) H1) := by
  refine ⟨fun pins s σ H R I h => ?_⟩
  refine Call_ (ld_blt I hg hm boot_enumerate (PyProof.Rows.callWith_type1 (thn (ha.run pos pins s σ H _ I h) fun us s1 ⟨vs, H1, I1, r1, q1⟩ => ?_) hs rfl))
  obtain ⟨k, a, xs, ex, hq, q⟩ := q1
  subst ex
  rw [Vals.ref1 r1]
  obtain ⟨its, rv, p', hz⟩ := sq2_seq I1 hq
  refine enum_call (begins2 k a its.toArray) p' fun h' he hit hk => wpAny_pyIter_enum he ?_
  have I2 : Inv X pins σ H1 { s1 with heap := h' } := I1.kept (t' := s1.toks) hk
  refine ⟨s1.heap.objs.size + 1, [s1.heap.objs.size + 1, s1.heap.objs.size], _, _, H1, rfl, I2, turn_en k a (s1.heap.objs.size + 1) s1.heap.objs.size, ⟨⟨.none, he⟩, itOf_new hit, Nat.succ_ne_self _⟩, fun b hb => ?_, q⟩
  have hle : s1.heap.objs.size ≤ b := by
    rcases List.mem_cons.mp hb with z | z
    · rw [z]; exact Nat.le_add_right _ _
    · rw [List.mem_singleton.mp z]; exact Nat.le_refl _
  exact I1.fpOk hle (I1.hok.fresh hle)
/-! ### two of them side by side -/
def Izp (K : PySem.W.Frag) (k l : Bool) (a b : Addr) : It :=
  ⟨fun i H => ∃ (xs ys : List V) (x y : V), Sq2 K k H a xs ∧ Sq2 K l H b ys ∧ xs[i]? = some x ∧ ys[i]? = some y,
    fun i H v H' => ∃ T us x y, v = .ref T ∧ H T = none ∧ H' = upd H T (tupN us [x, y]) ∧ (∀ xs, Sq2 K k H a xs → xs[i]? = some x) ∧ ∀ ys, Sq2 K l H b ys → ys[i]? = some y,
    fun i H => ∃ xs ys : List V, Sq2 K k H a xs ∧ Sq2 K l H b ys ∧ (xs.length ≤ i ∨ ys.length ≤ i)⟩
structure Zap (z TI TO i1 i2 : Nat) : Prop where
  a1 : TI ≠ z
  a2 : TO ≠ z
  a3 : TI ≠ TO
  a4 : TI ≠ i1
  a5 : TI ≠ i2
  a6 : TO ≠ i1
  a7 : TO ≠ i2
  a8 : i1 ≠ i2
  a9 : z ≠ i1
  b1 : z ≠ i2
theorem zap_new (n : Nat) : Zap (n + 4) (n + 2) (n + 3) n (n + 1) := ⟨by omega, by omega, by omega, by omega, by omega, by omega, by omega, by omega, by omega, by omega⟩
theorem le_new {n c : Nat} (h : c = n + 4 ∨ c = n + 2 ∨ c = n + 3 ∨ c = n ∨ c = n + 1) : n ≤ c := by omega
theorem zap_sep {k l : Bool} {h : Heap} {z TI TO i1 i2 a b : Addr} {i : Nat} {us ws : Array Value} (D : Zap z TI TO i1 i2) (hz : IsZip h z TI TO .none) (h1 : ItOf k h i1 a i) (h2 : ItOf l h i2 b i) (p1 : SeqOf k h a us) (p2 : SeqOf l h b ws) (ta : TO ≠ a) (tb : TO ≠ b) : ZipSep2 z TI TO i1 i2 [i1, a] [i2, b] := by
  obtain ⟨o1, g1, c1, _⟩ := itOf_obj h1
  obtain ⟨o2, g2, c2, _⟩ := itOf_obj h2
  obtain ⟨s1, f1, d1⟩ := seqOf_obj p1
  obtain ⟨s2, f2, d2⟩ := seqOf_obj p2
  have za : z ≠ a := apart_cls hz rfl f1 d1 (by cases k <;> decide)
  have zb : z ≠ b := apart_cls hz rfl f2 d2 (by cases l <;> decide)
  have ib : i1 ≠ b := apart_cls g1 c1 f2 d2 (by cases k <;> cases l <;> decide)
  have ia : i2 ≠ a := apart_cls g2 c2 f1 d1 (by cases k <;> cases l <;> decide)
  exact ⟨D.a1, D.a2, D.a3, D.a4, by simp, by simp [D.a9, za], by simp [D.a6, ta], D.a5, by simp, by simp [D.b1, zb], by simp [D.a7, tb], by simp [D.a8, ib], by simp [Ne.symm D.a8, ia]⟩
end VS
end
section
set_option Elab.async false
set_option linter.all false
set_option maxRecDepth 100000
set_option autoImplicit false
namespace VS
open PySem L2 PySem.W PySem.SeqAt PyProof.Rows
theorem turn_zp {P : Program} {w : World} {K : PySem.W.Frag} {elts : List Expr} {kk : Nat} {tpos : Pos} {k l : Bool} {a b z TI TO i1 i2 : Addr} (D : Zap z TI TO i1 i2) (ta : TO ≠ a) (tb : TO ≠ b) :
    Turn P w K (.Tuple elts kk tpos) (Izp K k l a b) [z, TI, TO, i1, i2] z (fun i h => IsZip h z TI TO .none ∧ IsTupOf2 h TI (.ref i1) (.ref i2) ∧ (∃ x y, IsTupOf2 h TO x y) ∧ ItOf k h i1 a i ∧ ItOf l h i2 b i) where
  mem := by simp
  obj := fun i h st c hc => by
    obtain ⟨hz, hTI, ⟨x, y, hTO⟩, j1, j2⟩ := st
    obtain ⟨o1, e1, _, v1, d1⟩ := itOf_obj j1
    obtain ⟨o2, e2, _, v2, d2⟩ := itOf_obj j2
    simp only [List.mem_cons, List.not_mem_nil, or_false] at hc
    rcases hc with q | q | q | q | q
    · rw [q]; exact ⟨_, hz, fun v q => nomatch q⟩
    · rw [q]; exact ⟨_, hTI, fun v q => nomatch q⟩
    · rw [q]; exact ⟨_, hTO, fun v q => nomatch q⟩
    · rw [q]; exact ⟨o1, e1, fun v q => by rw [d1] at q; cases q⟩
    · rw [q]; exact ⟨o2, e2, fun v q => by rw [d2] at q; cases q⟩
  keep := fun i h h' st kp => by
    obtain ⟨hz, hTI, ⟨x, y, hTO⟩, j1, j2⟩ := st
    exact ⟨kp z (by simp) _ hz, kp TI (by simp) _ hTI, ⟨x, y, kp TO (by simp) _ hTO⟩, itOf_at j1 fun o q => kp i1 (by simp) o q, itOf_at j2 fun o q => kp i2 (by simp) o q⟩
  item := by
    intro X hP hw hK hc i pins s σ H E I hf st hg
    subst hP hw hK
    obtain ⟨hz, hTI, ⟨x0, y0, hTO⟩, j1, j2⟩ := st
    obtain ⟨xs, ys, x, y, hqx, hqy, hx, hy⟩ := hg
    obtain ⟨its, rv, p, _⟩ := sq2_seq I hqx
    obtain ⟨its2, rv2, p2, _⟩ := sq2_seq I hqy
    obtain ⟨u, hu, ru⟩ := rv.get hx
    obtain ⟨u2, hu2, ru2⟩ := rv2.get hy
    have l1 : i < its.toArray.size := by simpa using (List.getElem?_eq_some_iff.mp hu).1
    have l2 : i < its2.toArray.size := by simpa using (List.getElem?_eq_some_iff.mp hu2).1
    have hzl : z < s.heap.objs.size := Heap.lt_size hz
    have hh : X.A.in1.handled = none := I.ok.hd hc
    refine wpAny_pyNext_zipD2_item (i := 0) (zap_sep D hz j1 j2 p p2 ta tb) (draws2 hh k i1 a (it_ne j1 p) its.toArray i) (draws2 hh l i2 b (it_ne j2 p2) its2.toArray i) hz hTI hTO ⟨j1, p⟩ ⟨j2, p2⟩ (by omega) (by omega) fun v1 v2 h' tk e1 e2 z' TO' st1 st2 hT hsz hk => ?_
    have q1 : v1 = u := by
      have : its.toArray[i]? = some u := by simpa using hu
      rw [Nat.add_zero, this] at e1
      exact (Option.some.inj e1).symm
    have q2 : v2 = u2 := by
      have : its2.toArray[i]? = some u2 := by simpa using hu2
      rw [Nat.add_zero, this] at e2
      exact (Option.some.inj e2).symm
    subst q1 q2
    refine ⟨_, rfl, wpAny_letOwnedTupleGo_zip (s := { s with heap := h', toks := tk }) z' fun h'' z'' sb => ?_⟩
    have hT2 : h''.get? s.heap.objs.size = some { cls := .type "tuple", data := .seq [v1, v2].toArray } := (sb.2 _ (Nat.ne_of_gt hzl)).trans hT
    have new : ObjOk X.prog X.w (upd H s.heap.objs.size (tupN [v1, v2] [x, y])) h'' s.heap.objs.size (tupN [v1, v2] [x, y]) :=
      ⟨hT2, by show 2 ≤ sizeLine; decide, [v1, v2], .cons ru (.cons ru2 .nil), ⟨_, hT2, rfl, _, rfl⟩⟩
    have I1 : Inv X pins σ (upd H s.heap.objs.size (tupN [v1, v2] [x, y])) { s with heap := h'', toks := tk } :=
      I.turnedNew (ch := [z, TI, TO, i1, i2]) (fun c o hb q => (sb.2 c (fun q' => hb (by simp [q']))).trans (hk c o (fun q' => hb (by simp [q'])) (fun q' => hb (by simp [q'])) (fun q' => hb (by simp [q'])) (fun q' => hb (by simp [q'])) q)) hf (Nat.le_refl _) new
    refine ⟨.ref s.heap.objs.size, _, I1, rfl, ⟨_, _, x, y, rfl, I.hok.fresh (Nat.le_refl _), rfl, fun m hm => by rw [sq2_inj I hm hqx]; exact hx, fun m hm => by rw [sq2_inj I hm hqy]; exact hy⟩, ⟨z'', ?_, ⟨v1, v2, ?_⟩, ?_, ?_⟩, fun c hcm => ?_⟩
    · exact (sb.2 _ D.a1).trans (hk _ _ D.a1 D.a3 D.a4 D.a5 hTI)
    · exact (sb.2 _ D.a2).trans TO'
    · exact itOf_at st1.1 fun o q => (sb.2 _ (Ne.symm D.a9)).trans q
    · exact itOf_at st2.1 fun o q => (sb.2 _ (Ne.symm D.b1)).trans q
    · obtain ⟨o1, g1, _⟩ := itOf_obj j1
      obtain ⟨o2, g2, _⟩ := itOf_obj j2
      have hlt : c < s.heap.objs.size := by
        simp only [List.mem_cons, List.not_mem_nil, or_false] at hcm
        rcases hcm with q | q | q | q | q
        · rw [q]; exact hzl
        · rw [q]; exact Heap.lt_size hTI
        · rw [q]; exact Heap.lt_size hTO
        · rw [q]; exact Heap.lt_size g1
        · rw [q]; exact Heap.lt_size g2
      rw [upd_ne (Nat.ne_of_lt hlt)]
      exact (hf c hcm).1
  done := by
    intro X hP hw hK hc i pins s σ H E I hf st hg
    subst hP hw hK
    obtain ⟨hz, hTI, ⟨x0, y0, hTO⟩, j1, j2⟩ := st
    obtain ⟨xs, ys, hqx, hqy, hend⟩ := hg
    obtain ⟨its, rv, p, _⟩ := sq2_seq I hqx
    obtain ⟨its2, rv2, p2, _⟩ := sq2_seq I hqy
    have l1 : xs.length = its.toArray.size := by simpa using rv.length
    have l2 : ys.length = its2.toArray.size := by simpa using rv2.length
    have hh : X.A.in1.handled = none := I.ok.hd hc
    exact wpAny_pyNext_zipD2_end (i := 0) (zap_sep D hz j1 j2 p p2 ta tb) (draws2 hh k i1 a (it_ne j1 p) its.toArray i) (draws2 hh l i2 b (it_ne j2 p2) its2.toArray i) hz hTI hTO ⟨j1, p⟩ ⟨j2, p2⟩ (by omega) (by omega) (by omega) fun h' tk hk => ⟨rfl, I.turnedL (ch := [z, TI, TO, i1, i2]) (fun c o hb q =>
      hk c o (fun q' => hb (by simp [q'])) (fun q' => hb (by simp [q'])) (fun q' => hb (by simp [q'])) (fun q' => hb (by simp [q'])) q) hf⟩
  self := fun A i s Q E st h => wpAny_pyIter_zip st.1 h
theorem seqOf_lt {k : Bool} {h : Heap} {a : Addr} {us : Array Value} (q : SeqOf k h a us) : a < h.objs.size := by
  obtain ⟨o, ho, _⟩ := seqOf_obj q
  exact Heap.lt_size ho
theorem pi_zp {X : Cx} {e e2 : Expr} {ta : TA} {p pos tpos : Pos} {elts : List Expr} {kk : Nat} (hg : Gl X "zip") (hm : X.mg "zip" = none) (ha : PA X [e, e2] ta)
    (hs : starEach [e, e2] X.env = (false, eval e X.env) :: starEach [e2] X.env := by rfl) (hpl : (backTo pos (starEach [e2] X.env)).any (·.1) = false := by rfl) :
    PI X (.Tuple elts kk tpos) (.Call (.Name "zip" p) [e, e2] [] pos) (fun σ H R => ta σ H fun vs H1 => ∃ k l a b xs ys, vs = [.ref a, .ref b] ∧ Sq2 X.K k H1 a xs ∧ Sq2 X.K l H1 b ys ∧ R (Izp X.K k l a b) H1) := by
  refine ⟨fun pins s σ H R I h => ?_⟩
  refine Call_ (ld_blt I hg hm PyProof.Rows.boot_zip (PyProof.Rows.callWith_type1 (thn (ha.run pos pins s σ H _ I h) fun us s1 ⟨vs, H1, I1, r1, q1⟩ => ?_) hs hpl))
  obtain ⟨k, l, a, b, xs, ys, ex, hqx, hqy, q⟩ := q1
  subst ex
  cases r1 with
  | cons r rr =>
    cases rr with
    | cons r' rr =>
      cases rr
      cases r
      cases r'
      obtain ⟨its, rv, p1, _⟩ := sq2_seq I1 hqx
      obtain ⟨its2, rv2, p2, _⟩ := sq2_seq I1 hqy
      have la := seqOf_lt p1
      have lb := seqOf_lt p2
      refine zip_begins2 (begins2 k a its.toArray) (begins2 l b its2.toArray) p1 p2 fun h' hz hTI hTO g1 g2 hsz hk => wpAny_pyIter_zip hz ?_
      have I2 : Inv X pins σ H1 { s1 with heap := h' } := I1.kept (t' := s1.toks) hk
      refine ⟨s1.heap.objs.size + 4, [s1.heap.objs.size + 4, s1.heap.objs.size + 2, s1.heap.objs.size + 3, s1.heap.objs.size, s1.heap.objs.size + 1], _, _, H1, rfl, I2,
        turn_zp (k := k) (l := l) (a := a) (b := b) (zap_new _) (Nat.ne_of_gt (Nat.lt_of_lt_of_le la (Nat.le_add_right _ _))) (Nat.ne_of_gt (Nat.lt_of_lt_of_le lb (Nat.le_add_right _ _))), ⟨hz, hTI, ⟨_, _, hTO⟩, itOf_new g1, itOf_new g2⟩, fun c hcm => ?_, q⟩
      have hle : s1.heap.objs.size ≤ c := by
        simp only [List.mem_cons, List.not_mem_nil, or_false] at hcm
        exact le_new hcm
      exact I1.fpOk hle (I1.hok.fresh hle)
end VS
end
section
set_option Elab.async false
set_option linter.all false
set_option maxRecDepth 100000
set_option autoImplicit false
namespace VS
open PySem L2 PySem.W PySem.SeqAt PyProof.Rows
def enumL : Nat → List PyData → List PyData
  | _, [] => []
  | n, d :: ds => .tuple [.int (n : Int), d] :: enumL (n + 1) ds
def zipL (xs ys : List PyData) : List PyData := List.zipWith (fun x y => .tuple [x, y]) xs ys
theorem enumL_get : ∀ (ds : List PyData) (n i : Nat) (d : PyData), (enumL n ds)[i]? = some d → ∃ d0, ds[i]? = some d0 ∧ d = .tuple [.int ((n + i : Nat) : Int), d0]
  | [], _, _, _, h => by simp [enumL] at h
  | x :: ds, n, 0, d, h => by
    simp [enumL] at h
    exact ⟨x, rfl, h.symm⟩
  | x :: ds, n, i + 1, d, h => by
    have h' : (enumL (n + 1) ds)[i]? = some d := by simpa [enumL] using h
    obtain ⟨d0, h1, h2⟩ := enumL_get ds (n + 1) i d h'
    refine ⟨d0, by simpa using h1, ?_⟩
    rw [h2, show n + 1 + i = n + (i + 1) by omega]
theorem enumL_len : ∀ (ds : List PyData) (n : Nat), (enumL n ds).length = ds.length
  | [], _ => rfl
  | _ :: ds, n => congrArg Nat.succ (enumL_len ds (n + 1))
theorem zipL_get {xs ys : List PyData} {i : Nat} {d : PyData} (h : (zipL xs ys)[i]? = some d) : ∃ x y, xs[i]? = some x ∧ ys[i]? = some y ∧ d = .tuple [x, y] := by
  unfold zipL at h
  rw [List.getElem?_zipWith] at h
  cases h1 : xs[i]? with
  | none => rw [h1] at h; simp at h
  | some x =>
    cases h2 : ys[i]? with
    | none => rw [h1, h2] at h; simp at h
    | some y =>
      rw [h1, h2] at h
      exact ⟨x, y, rfl, rfl, (Option.some.inj h).symm⟩
def dEnum (g : Rho → RE PyData) : Rho → RE (List PyData) := fun ρ => (g ρ).bind fun d => R.of ((seqD d).map (enumL 0))
def dZip (g h : Rho → RE PyData) : Rho → RE (List PyData) := fun ρ => (g ρ).bind fun d => (h ρ).bind fun e => R.of ((seqD d).bind fun xs => (seqD e).map (zipL xs))
theorem sq2_mono {K : PySem.W.Frag} {k : Bool} {H H' : Hp} {a : Addr} {xs : List V} (e : Same H H') (h : Sq2 K k H a xs) : Sq2 K k H' a xs := by
  cases k with
  | true => exact e.seq h
  | false => exact sqt_mono e h
theorem ien_ok {K : PySem.W.Frag} {F H : Hp} {k : Bool} {a : Addr} {vs : List V} {ds : List PyData} (h : Sq2 K k H a vs) (hd : DqAll K F vs ds) : ItOk K F H (Ien K k a) (enumL 0 ds) := fun i Fi Hi h1 h2 h3 => by
  have hs := sq2_mono h2 h
  refine ⟨fun hl => ⟨vs, hs, by rw [dpa_length hd]; rw [enumL_len] at hl; exact hl⟩, fun d hdd => ?_⟩
  obtain ⟨d0, hd0, rfl⟩ := enumL_get _ _ _ _ hdd
  obtain ⟨v, hv, hdv⟩ := dpa_get hd hd0
  refine ⟨⟨vs, v, hs, hv⟩, fun x H' hy => ?_⟩
  obtain ⟨T, us, y, rfl, hT, rfl, hy⟩ := hy
  have e := hy vs hs
  rw [hv] at e; cases e
  refine ⟨_, .new h3 hT, .tup (SqN.of upd_same) (.cons (by rw [Nat.zero_add]; exact .int _) (.cons (dp_mono (same_upd (h3.free hT)) (dp_mono h1 hdv)) .nil))⟩
theorem izp_ok {K : PySem.W.Frag} {F H : Hp} {k l : Bool} {a b : Addr} {vs ws : List V} {ds es : List PyData} (h : Sq2 K k H a vs) (hd : DqAll K F vs ds) (h' : Sq2 K l H b ws) (he : DqAll K F ws es) : ItOk K F H (Izp K k l a b) (zipL ds es) := fun i Fi Hi h1 h2 h3 => by
  have hs := sq2_mono h2 h
  have ht := sq2_mono h2 h'
  refine ⟨fun hl => ⟨vs, ws, hs, ht, by rw [dpa_length hd, dpa_length he]; unfold zipL at hl; rw [List.length_zipWith] at hl; omega⟩, fun d hdd => ?_⟩
  obtain ⟨x, y, hx, hy, rfl⟩ := zipL_get hdd
  obtain ⟨v, hv, hdv⟩ := dpa_get hd hx
  obtain ⟨u, hu, hdu⟩ := dpa_get he hy
  refine ⟨⟨vs, ws, v, u, hs, ht, hv, hu⟩, fun z H' hz => ?_⟩
  obtain ⟨T, us, v', u', rfl, hT, rfl, hz1, hz2⟩ := hz
  have e1 := hz1 vs hs
  have e2 := hz2 ws ht
  rw [hv] at e1; cases e1
  rw [hu] at e2; cases e2
  exact ⟨_, .new h3 hT, .tup (SqN.of upd_same) (.cons (dp_mono (same_upd (h3.free hT)) (dp_mono h1 hdv)) (.cons (dp_mono (same_upd (h3.free hT)) (dp_mono h1 hdu)) .nil))⟩
theorem seqE {K : PySem.W.Frag} {F H : Hp} {v : V} {d : PyData} {xs : List PyData} (sm : Same F H) (h : DpS K F H v d) (e : seqD d = some xs) : ∃ k a vs, v = .ref a ∧ Sq2 K k H a vs ∧ DqAll K F vs xs := by
  unfold seqD at e
  split at e
  · cases e
    obtain ⟨a, vs, rfl, h1, h2⟩ := h.lst sm
    exact ⟨true, a, vs, rfl, h1, h2⟩
  · cases e
    obtain ⟨a, vs, rfl, h1, h2⟩ := h.tup sm
    exact ⟨false, a, vs, rfl, (sqn_mono sm h1).sq, h2⟩
  · cases e
theorem seqF {K : PySem.W.Frag} {F : Hp} {v : V} {d : PyData} {xs : List PyData} (h : Dq K F v d) (e : seqD d = some xs) : ∃ k a vs, v = .ref a ∧ Sq2 K k F a vs ∧ DqAll K F vs xs := by
  unfold seqD at e
  split at e
  · cases e
    cases h with
    | lst h1 h2 => exact ⟨true, _, _, rfl, h1, h2⟩
  · cases e
    cases h with
    | tup h1 h2 => exact ⟨false, _, _, rfl, h1.sq, h2⟩
  · cases e
section
variable {X : Cx} {xc : Nat → Addr} {W : WX} {e a b : Expr} {g ga gb : Rho → RE PyData} {pos p tpos : Pos} {elts : List Expr} {kk : Nat}
theorem die_enum (hg : Gl X "enumerate") (hm : X.mg "enumerate" = none) (h : DE X xc W kE e g) (hs : starEach [e] X.env = [(false, eval e X.env)] := by rfl) (hst : starEach [e] X.env = (false, eval e X.env) :: starEach [] X.env := by rfl) :
    DIE X xc W (.Tuple elts kk tpos) (.Call (.Name "enumerate" p) [e] [] pos) (dEnum g) := PI.imp (pi_en hg hm (pa_cons h pa_nil hst) hs) fun σ H RR ⟨F0, H0, ρ, F, r, hb, hq, hx⟩ => by
  refine eC.go r hb hx fun d ed v F1 H1 x1 r1 k1 hb1 hx1 => ?_
  obtain ⟨z, ez⟩ := R.of_ne_bad hb1
  have eq : dEnum g ρ = .ok z := by show (g ρ).bind _ = _; rw [ed, R.bind_ok, ez]; rfl
  cases hsd : seqD d with
  | none => rw [hsd] at ez; cases ez
  | some xs =>
    rw [hsd] at ez
    cases ez
    obtain ⟨k, a, vs, rfl, h1, h2⟩ := seqE r1.same k1 hsd
    exact ⟨k, a, vs, rfl, h1, hq _ eq _ F1 H1 x1 (ien_ok h1 h2)⟩
theorem dif_enum (hg : Gl X "enumerate") (hm : X.mg "enumerate" = none) (h : DE X xc W kF e g) (hs : starEach [e] X.env = [(false, eval e X.env)] := by rfl) (hst : starEach [e] X.env = (false, eval e X.env) :: starEach [] X.env := by rfl) :
    DIF X xc W (.Tuple elts kk tpos) (.Call (.Name "enumerate" p) [e] [] pos) (dEnum g) := PI.imp (pi_en hg hm (pa_cons h pa_nil hst) hs) fun σ H RR ⟨F0, H0, ρ, F, r, hb, hq, hx⟩ => by
  refine eC.go r hb hx fun d ed v F1 H1 x1 r1 k1 hb1 hx1 => ?_
  obtain ⟨z, ez⟩ := R.of_ne_bad hb1
  have eq : dEnum g ρ = .ok z := by show (g ρ).bind _ = _; rw [ed, R.bind_ok, ez]; rfl
  cases hsd : seqD d with
  | none => rw [hsd] at ez; cases ez
  | some xs =>
    rw [hsd] at ez
    cases ez
    obtain ⟨k, a, vs, rfl, h1, h2⟩ := seqF k1 hsd
    exact ⟨k, a, vs, rfl, sq2_mono r1.same h1, hq _ eq _ F1 H1 x1 (ien_ok h1 h2)⟩
theorem die_zip (hg : Gl X "zip") (hm : X.mg "zip" = none) (h : DE X xc W kE a ga) (h' : DE X xc W kE b gb) (hs : starEach [a, b] X.env = (false, eval a X.env) :: starEach [b] X.env := by rfl) (hst : starEach [b] X.env = (false, eval b X.env) :: starEach [] X.env := by rfl) (hpl : (backTo pos (starEach [b] X.env)).any (·.1) = false := by rfl) :
    DIE X xc W (.Tuple elts kk tpos) (.Call (.Name "zip" p) [a, b] [] pos) (dZip ga gb) := PI.imp (pi_zp hg hm (pa_cons h (pa_cons h' pa_nil hst) hs) hs hpl) fun σ H RR ⟨F0, H0, ρ, F, r, hb, hq, hx⟩ => by
  refine eC.go r hb hx fun d ed v F1 H1 x1 r1 k1 hb1 hx1 => ?_
  refine eC.go r1 hb1 hx1 fun d2 ed2 v2 F2 H2 x2 r2 k2 hb2 hx2 => ?_
  obtain ⟨z, ez⟩ := R.of_ne_bad hb2
  have eq : dZip ga gb ρ = .ok z := by show (ga ρ).bind _ = _; rw [ed, R.bind_ok, ed2, R.bind_ok, ez]; rfl
  cases hsd : seqD d with
  | none => rw [hsd] at ez; cases ez
  | some xs =>
    cases hse : seqD d2 with
    | none => rw [hsd, hse] at ez; cases ez
    | some ys =>
      rw [hsd, hse] at ez
      cases ez
      obtain ⟨k, a, vs, rfl, h1, h2⟩ := seqE r2.same (k1.step x2) hsd
      obtain ⟨l, b, ws, rfl, g1, g2⟩ := seqE r2.same k2 hse
      exact ⟨k, l, a, b, vs, ws, rfl, h1, g1, hq _ eq _ F2 H2 (x1.trans x2) (izp_ok h1 h2 g1 g2)⟩
end
end VS
end
section
set_option Elab.async false
set_option linter.all false
set_option maxRecDepth 100000
set_option autoImplicit false
namespace VS
open PySem L2 PyProof.Rows
/-! ### sorted(set(tuple of ints)) -/
def insI (x : Int) : List Int → List Int
  | [] => [x]
  | y :: ys => if x ≤ y then x :: y :: ys else y :: insI x ys
def sortI : List Int → List Int
  | [] => []
  | x :: xs => insI x (sortI xs)
theorem mem_insI {x y : Int} : ∀ {l : List Int}, y ∈ insI x l ↔ y = x ∨ y ∈ l
  | [] => by simp [insI]
  | z :: l => by
    unfold insI
    split
    · simp
    · rw [List.mem_cons, mem_insI, List.mem_cons]
      constructor
      · rintro (h | h | h)
        · exact .inr (.inl h)
        · exact .inl h
        · exact .inr (.inr h)
      · rintro (h | h | h)
        · exact .inr (.inl h)
        · exact .inl h
        · exact .inr (.inr h)
theorem mem_sortI {y : Int} : ∀ {l : List Int}, y ∈ sortI l ↔ y ∈ l
  | [] => Iff.rfl
  | x :: l => by rw [sortI, mem_insI, mem_sortI, List.mem_cons]
theorem insI_lt {x : Int} : ∀ {l : List Int}, l.Pairwise (· < ·) → x ∉ l → (insI x l).Pairwise (· < ·)
  | [], _, _ => by simp [insI]
  | z :: l, h, hx => by
    have h' := List.pairwise_cons.mp h
    have hz : x ≠ z := fun e => hx (by simp [e])
    unfold insI
    split
    · refine List.pairwise_cons.mpr ⟨fun y hy => ?_, h⟩
      rcases List.mem_cons.mp hy with q | q
      · omega
      · have := h'.1 y q
        omega
    · refine List.pairwise_cons.mpr ⟨fun y hy => ?_, insI_lt h'.2 fun q => hx (by simp [q])⟩
      rcases mem_insI.mp hy with q | q
      · omega
      · exact h'.1 y q
theorem sortI_lt : ∀ {l : List Int}, l.Nodup → (sortI l).Pairwise (· < ·)
  | [], _ => .nil
  | x :: l, h => by
    have h' := List.nodup_cons.mp h
    exact insI_lt (sortI_lt h'.2) fun q => h'.1 (mem_sortI.mp q)
theorem lt_unique : ∀ {l m : List Int}, l.Pairwise (· < ·) → m.Pairwise (· < ·) → (∀ y, y ∈ l ↔ y ∈ m) → l = m
  | [], [], _, _, _ => rfl
  | [], x :: m, _, _, h => absurd ((h x).mpr (by simp)) (by simp)
  | x :: l, [], _, _, h => absurd ((h x).mp (by simp)) (by simp)
  | x :: l, y :: m, h1, h2, h => by
    have a1 := List.pairwise_cons.mp h1
    have a2 := List.pairwise_cons.mp h2
    have e : x = y := by
      rcases List.mem_cons.mp ((h x).mp (by simp)) with q | q
      · exact q
      · rcases List.mem_cons.mp ((h y).mpr (by simp)) with q' | q'
        · exact q'.symm
        · have := a1.1 y q'
          have := a2.1 x q
          omega
    subst e
    congr 1
    refine lt_unique a1.2 a2.2 fun z => ?_
    constructor
    · intro hz
      rcases List.mem_cons.mp ((h z).mp (by simp [hz])) with q | q
      · have := a1.1 z hz
        omega
      · exact q
    · intro hz
      rcases List.mem_cons.mp ((h z).mpr (by simp [hz])) with q | q
      · have := a2.1 z hz
        omega
      · exact q
def sortSetD : PyData → Option PyData
  | .tuple xs => (intsOf xs).bind fun ns => if ns.length ≤ 60 then some (.list ((sortI (ddup ns)).map .int)) else none
  | _ => none
section
variable {X : Cx} {xc : Nat → Addr} {W : WX} {k : Kd} {e a b c : Expr} {g ga gb gc : Rho → RE PyData} {pos p p1 p2 q2 : Pos}
def tSortSet (K : PySem.W.Frag) (ta : TE) : TE := fun σ H Q => ta σ H fun x H1 => ∃ (l : Addr) (ns : List Int), x = .ref l ∧ SqT K H1 l (ns.map V.int) ∧ ns.length ≤ 60 ∧ ∀ q, H1 q = none → Q (.ref q) (upd H1 q (.lst ((sortI (ddup ns)).map V.int)))
theorem pe_sortSet {ta : TE} (hc : X.calm = true) (hg : Gl X "sorted") (hm : X.mg "sorted" = none) (hg2 : Gl X "set") (hm2 : X.mg "set" = none) (ha : PE X a ta)
    (na : starEach [a] X.env = (false, eval a X.env) :: starEach [] X.env := by rfl) (nb : starEach [.Call (.Name "set" p1) [a] [] p2] X.env = (false, eval (.Call (.Name "set" p1) [a] [] p2) X.env) :: starEach [] X.env := by rfl) : PE X (.Call (.Name "sorted" p) [.Call (.Name "set" p1) [a] [] p2] [] pos) (tSortSet X.K ta) := by
  refine ⟨fun pins s σ H Q I h => ?_⟩
  refine Call_ (ld_blt I hg hm boot_sorted ?_)
  refine PyProof.Rows.callWith_builtin1 (PyProof.Rows.args_cons ?_ nb) nb rfl
  refine Call_ (ld_blt I hg2 hm2 PyProof.Rows.boot_set ?_)
  refine PyProof.Rows.callWith_type1 (PyProof.Rows.args_cons (thn (ha.run pins s σ H _ I h) fun v s1 ⟨x, H1, I1, r1, q1⟩ => PyProof.Rows.args_nil ?_) na) na rfl
  obtain ⟨l, ns, rfl, hq, h1, q1⟩ := q1
  cases r1
  obtain ⟨its, r, pl, hz⟩ := I1.tuple hq
  refine call_set_tupI ns (I1.ok.hd hc) (show s1.heap.IsTuple l its.toArray from pl) (by simpa using intsAre_of r) (by unfold scanBound; omega) fun h' tk c hS hcn hk => ?_
  refine PyProof.Rows.args_nil ?_
  have I2 : Inv X pins σ H1 { s1 with heap := h', toks := tk } := I1.kept hk
  refine sorted_set hS (I2.ok.hd hc) (by omega) fun s' q out m ns' k2 g2 o2 hle hat hint hlt hmem hl => ?_
  have e : ns' = sortI (ddup ns) := lt_unique hlt (sortI_lt (nodup_ddup ns)) fun y => by rw [hmem, mem_sortI, mem_ddup, decide_eq_true_eq]
  subst e
  have hn : H1 q = none := I2.hok.fresh hle
  have z : ((sortI (ddup ns)).map V.int).length ≤ sizeLine := by rw [List.length_map, hl, sizeLine_eq]; omega
  have J : Inv X pins σ (upd H1 q (.lst ((sortI (ddup ns)).map V.int))) { { s1 with heap := h', toks := tk } with heap := s'.heap, gens := s'.gens, drawn := s'.drawn, toks := s'.toks } := I2.call (g' := s'.gens) (d' := s'.drawn) (t' := s'.toks) (ch := []) (Un.laid k2 hle hn) (I2.hok.laid k2 hle ⟨z, out.toList, m, vals_of_ints hint, hat⟩) (by rw [g2]; exact I2.bare) (fun _ y => nomatch y)
  have es : { { s1 with heap := h', toks := tk } with heap := s'.heap, gens := s'.gens, drawn := s'.drawn, toks := s'.toks } = s' := by
    cases s' with
    | mk a1 a2 a3 a4 a5 =>
      simp only at o2 ⊢
      rw [← o2]
  rw [es] at J
  exact ⟨.ref q, _, J, rfl, q1 q hn⟩
theorem de_sortSet (hc : X.calm = true) (hg : Gl X "sorted") (hm : X.mg "sorted" = none) (hg2 : Gl X "set") (hm2 : X.mg "set" = none) (h : DE X xc W kE a g)
    (na : starEach [a] X.env = (false, eval a X.env) :: starEach [] X.env := by rfl) (nb : starEach [.Call (.Name "set" p1) [a] [] p2] X.env = (false, eval (.Call (.Name "set" p1) [a] [] p2) X.env) :: starEach [] X.env := by rfl) :
    DE X xc W kN (.Call (.Name "sorted" p) [.Call (.Name "set" p1) [a] [] p2] [] pos) (dUn sortSetD g) := PE.imp (pe_sortSet hc hg hm hg2 hm2 h na nb) fun σ H Q ⟨F0, H0, ρ, F, r, hb, hq, hx⟩ => by
  refine eC.go r hb hx fun d ed v F1 H1 x1 r1 k1 hb1 hx1 => ?_
  obtain ⟨z, ez⟩ := R.of_ne_bad hb1
  have eq : dUn sortSetD g ρ = .ok z := by show (g ρ).bind _ = _; rw [ed, R.bind_ok, ez]; rfl
  unfold sortSetD at ez
  split at ez
  · rename_i xs
    cases q : intsOf xs with
    | none => rw [q] at ez; cases ez
    | some ns =>
      rw [q] at ez
      have e := intsOf_eq q
      subst e
      have ez2 : (if ns.length ≤ 60 then some (PyData.list ((sortI (ddup ns)).map .int)) else none) = some z := ez
      split at ez2
      · rename_i hl
        cases ez2
        obtain ⟨a, vs, rfl, h1, h2⟩ := k1.tup r1.same
        have e := dpa_ints h2
        subst e
        refine ⟨a, ns, rfl, (sqn_mono r1.same h1).sq, hl, fun p hp => hq _ eq _ F1 _ (x1.trans (.own r1.same hp)) ⟨p, _, _, rfl, rfl, ?_, r1.same.free hp, upd_same, ints_dpa _⟩⟩
        exact x1.hh.free hp
      · cases ez2
  · cases ez
end
end VS
end
section
set_option Elab.async false
set_option linter.all false
set_option maxRecDepth 100000
set_option autoImplicit false
namespace VS
open PySem L2
/-! ### a dict of ints of one's own -/
def lookI (kvs : List (Int × Int)) (k : Int) : Option Int := (kvs.find? fun p => decide (p.1 = k)).map (·.2)
def putI (kvs : List (Int × Int)) (k v : Int) : List (Int × Int) := if (kvs.any fun p => decide (p.1 = k)) = true then kvs.map fun p => if p.1 = k then (p.1, v) else p else kvs ++ [(k, v)]
theorem lookI_eq (k : Int) : ∀ kvs : List (Int × Int), valV (kvs.map fun p => ((.inl p.1 : Key), V.int p.2)) (.inl k) = (lookI kvs k).map V.int
  | [] => rfl
  | p :: kvs => by
    rw [List.map_cons]
    by_cases h : p.1 = k
    · rw [valV_pos (by simp [h])]
      simp [lookI, List.find?_cons, h]
    · rw [valV_neg (by simpa using h), lookI_eq k kvs]
      simp [lookI, List.find?_cons, h]
theorem putI_eq (k v : Int) (kvs : List (Int × Int)) : putK (kvs.map fun p => ((.inl p.1 : Key), V.int p.2)) (.inl k) (.int v) = (putI kvs k v).map fun p => ((.inl p.1 : Key), V.int p.2) := by
  unfold putK putI
  have e : ((kvs.map fun p => ((.inl p.1 : Key), V.int p.2)).any fun kv => decide (kv.1 = .inl k)) = kvs.any fun p => decide (p.1 = k) := by
    rw [List.any_map]
    congr 1
    funext p
    simp
  rw [e]
  split
  · rw [List.map_map, List.map_map]
    refine List.map_congr_left fun p _ => ?_
    by_cases h : p.1 = k
    · simp [h]
    · simp [h]
  · simp
def noDc (ρ : Rho) : Rho := ρ.map fun o => match o with
  | some (.dc _) => none
  | o => o
theorem noDc_get {ρ : Rho} {i : Nat} {sv : SV} (h : (noDc ρ)[i]? = some (some sv)) : ρ[i]? = some (some sv) ∧ ∀ kvs, sv ≠ .dc kvs := by
  unfold noDc at h
  rw [List.getElem?_map] at h
  cases q : ρ[i]? with
  | none => rw [q] at h; cases h
  | some o =>
    rw [q] at h
    have h := Option.some.inj h
    cases o with
    | none => cases h
    | some s =>
      cases s with
      | dc kvs => cases h
      | _ => cases h; exact ⟨rfl, fun _ z => by cases z⟩
section
variable {K : PySem.W.Frag} {F0 H0 F H : Hp} {ρ : Rho} {σ : L2.St}
theorem SRel.setDc {i : Nat} {a : Addr} (r : SRel K F0 H0 ρ σ F H) (hn : H a = none) : SRel K F0 H0 (ρ.set i (some (.dc []))) (σ.set i (some (.ref a))) F (upd H a (dkOf [])) := by
  have x : Fz F H F (upd H a (dkOf [])) := ⟨.refl _, same_upd hn, same_upd_mut r.same (r.same.free hn), fun _ _ q => .inl q⟩
  have r2 := r.step x
  refine ⟨r2.fz, by rw [List.length_set, List.length_set, r2.ln], fun j sv e => ?_, fun j k ds es n e1 e2 => ?_, ⟨fun j k t es b c cs e1 e2 e3 e4 e5 => ?_, fun j k t es b c cs e1 e2 e3 e4 e5 => ?_, fun j k t u b c cs es n e1 e2 e3 e4 e5 e6 => ?_⟩⟩
  · rcases set_some e with ⟨rfl, q, hl⟩ | ⟨n, q⟩
    · cases q
      rw [List.getElem?_set_self (by rw [← r.ln]; exact hl)]
      exact ⟨a, rfl, r.fz.hh.free hn, r.same.free hn, upd_same⟩
    · rw [List.getElem?_set_ne n]; exact r2.sl j sv q
  · rcases set_some e1 with ⟨_, q, _⟩ | ⟨n1, q1⟩
    · cases q
    rcases set_some e2 with ⟨_, q, _⟩ | ⟨n2, q2⟩
    · cases q
    rw [List.getElem?_set_ne n1, List.getElem?_set_ne n2]
    exact r2.df j k ds es n q1 q2
  · rcases set_some e1 with ⟨_, q, _⟩ | ⟨n1, q1⟩
    · cases q
    rcases set_some e2 with ⟨_, q, _⟩ | ⟨n2, q2⟩
    · cases q
    rw [List.getElem?_set_ne n1] at e3
    rw [List.getElem?_set_ne n2] at e4
    exact r2.dj.ow j k t es b c cs q1 q2 e3 e4 e5
  · rcases set_some e1 with ⟨_, q, _⟩ | ⟨n1, q1⟩
    · cases q
    rw [List.getElem?_set_ne n1] at e3
    rcases set_some e2 with ⟨rfl, _, hl⟩ | ⟨n2, q2⟩
    · rw [List.getElem?_set_self (by rw [← r.ln]; exact hl)] at e4
      cases e4
      exact r.newp x hn j t b cs q1 e3 e5
    · rw [List.getElem?_set_ne n2] at e4
      exact r2.dj.dc j k t es b c cs q1 q2 e3 e4 e5
  · rcases set_some e1 with ⟨_, q, _⟩ | ⟨n1, q1⟩
    · cases q
    rcases set_some e2 with ⟨_, q, _⟩ | ⟨n2, q2⟩
    · cases q
    rw [List.getElem?_set_ne n1] at e3
    rw [List.getElem?_set_ne n2] at e4
    exact r2.dj.cp j k t u b c cs es n q1 q2 e3 e4 e5 e6
theorem dk_ni {H : Hp} {b : Addr} {kvs : List (Int × Int)} (h : H b = some (dkOf kvs)) : ∀ C dx fs, H b ≠ some (.ins C dx fs) := fun C dx fs z => by rw [h] at z; cases z
theorem SRel.putDc {i : Nat} {a : Addr} {kvs lvs : List (Int × Int)} (r : SRel K F0 H0 ρ σ F H) (hs : σ[i]? = some (some (.ref a))) (hi : ρ[i]? = some (some (.dc kvs))) : SRel K F0 H0 ((noDc ρ).set i (some (.dc lvs))) σ F (upd H a (dkOf lvs)) := by
  obtain ⟨b, e, h0, hf, hh⟩ := r.sl i _ hi
  rw [hs] at e; cases e
  refine ⟨⟨r.fz.ff, same_upd_mut r.fz.hh h0, same_upd_mut r.same hf, r.fz.nw⟩, by rw [List.length_set, ← r.ln]; unfold noDc; rw [List.length_map], fun j sv e => ?_, fun j k ds es n e1 e2 => ?_, ?_⟩
  · rcases set_some e with ⟨rfl, q, hl⟩ | ⟨n, q⟩
    · cases q
      exact ⟨a, hs, h0, hf, upd_same⟩
    · obtain ⟨q, nd⟩ := noDc_get q
      have z := r.sl j sv q
      cases sv with
      | fr d => exact z
      | sh fs => exact z
      | ob a => exact z
      | dc kvs => exact absurd rfl (nd kvs)
      | pr p => exact z
      | cp t =>
        obtain ⟨c, cs, e', h1, g, ga⟩ := z
        have na := r.dj.dc j i t kvs c a cs q hi e' hs g
        exact ⟨c, cs, e', h1, g.mv (upd_ne (g.ne na (dk_ni hh))) (fun x hx => upd_ne fun (w : x = a) => na (w ▸ hx)) (.refl _), ga⟩
      | ow fs =>
        obtain ⟨c, us, e2, h2, h3, h4, h5⟩ := z
        have nc : c ≠ a := fun w => by rw [w, hh] at h4; cases h4
        exact ⟨c, us, e2, h2, h3, by rw [upd_ne nc]; exact h4, h5⟩
  · rcases set_some e1 with ⟨_, q, _⟩ | ⟨_, q1⟩
    · cases q
    rcases set_some e2 with ⟨_, q, _⟩ | ⟨_, q2⟩
    · cases q
    exact r.df j k ds es n (noDc_get q1).1 (noDc_get q2).1
  · refine (r.dj.heap fun j t c h1 h2 => ?_).keep (fun j t e => ?_) (fun j t e => ?_) (fun j t e => ?_)
    · obtain ⟨c', cs, e', _, g, _⟩ := r.sl j _ h1
      rw [h2] at e'; cases e'
      exact ⟨cs, g, upd_ne (g.ne (r.dj.dc j i t kvs c a cs h1 hi h2 hs g) (dk_ni hh))⟩
    · rcases set_some e with ⟨_, q, _⟩ | ⟨n, q⟩
      · cases q
      · exact ⟨(noDc_get q).1, rfl⟩
    · rcases set_some e with ⟨_, q, _⟩ | ⟨n, q⟩
      · cases q
      · exact ⟨_, (noDc_get q).1, rfl⟩
    · rcases set_some e with ⟨rfl, _, _⟩ | ⟨n, q⟩
      · exact ⟨_, hi, rfl⟩
      · exact absurd rfl ((noDc_get q).2 _)
end
def dNewDc (i : Nat) : Rho → RS := fun ρ => .ok (.nx (ρ.set i (some (.dc []))))
def dDGet (i : Nat) (g : Rho → RE PyData) : Rho → RE PyData := fun ρ => match ρ[i]? with
  | some (some (.dc kvs)) => (g ρ).bind fun d => match d with
    | .int k => R.of ((lookI kvs k).map .int)
    | _ => .bad
  | _ => .bad
def atDc (i : Nat) (f : List (Int × Int) → Rho → RS) : Rho → RS := fun ρ => match ρ[i]? with
  | some (some (.dc kvs)) => f kvs ρ
  | _ => .bad
def dDPut (i : Nat) (gk gv : Rho → RE PyData) : Rho → RS := stE gv fun v => atDc i fun kvs => stE gk fun k ρ => match k, v with
  | .int k, .int v => if kvs.length < lim then .ok (.nx ((noDc ρ).set i (some (.dc (putI kvs k v))))) else .bad
  | _, _ => .bad
section
variable {X : Cx} {xc : Nat → Addr} {W : WX} {e o : Expr} {g gk gv : Rho → RE PyData} {pos p : Pos} {i : Nat} {st : Stmt}
theorem ds_newDc (h : PS X st (tAsg tDNewK (gName i))) : DS1 X xc W st (dNewDc i) := PS.imp h fun D σ H ⟨F0, H0, ρ, F, r, hg⟩ => fun a ha =>
  hg.nx _ rfl _ F _ (.refl _) (r.setDc ha)
theorem de_dget (hu : X.A.units + 65 < cLine) (ho : PE X o (tVar i)) (h : DE X xc W kE e g) (hs : NoSl e) : DE X xc W kF (.Subscript o e pos) (dDGet i g) := PE.imp (pe_dget (by omega) ho h hs) fun σ H Q ⟨F0, H0, ρ, F, r, hb, hq, hx⟩ => by
  by_cases hd : ∃ kvs, ρ[i]? = some (some (.dc kvs))
  · obtain ⟨kvs, qi⟩ := hd
    have eqg : dDGet i g ρ = (g ρ).bind fun d => match d with
      | .int k => R.of ((lookI kvs k).map .int)
      | _ => .bad := by unfold dDGet; rw [qi]
    rw [eqg] at hb hq hx
    obtain ⟨a, e1, h0, h1, h2⟩ := r.sl i _ qi
    refine ⟨.ref a, e1, eC.go r hb hx fun d ed v F1 H1 x1 r1 k1 hb1 hx1 => ?_⟩
    cases d with
    | int k =>
      cases hl : lookI kvs k with
      | none => dsimp only at hb1; rw [hl] at hb1; exact absurd rfl hb1
      | some y =>
        refine ⟨a, .int y, rfl, ?_, hq (.int y) ?_ _ F1 H1 x1 (.int y)⟩
        · rw [k1.int]
          have := DGet.k (k := .inl k) (x1.hh _ _ h2)
          rw [lookI_eq, hl] at this
          exact this
        · rw [ed, R.bind_ok]
          show R.of ((lookI kvs k).map PyData.int) = _
          rw [hl]
          rfl
    | _ => exact absurd rfl hb1
  · refine absurd ?_ hb
    unfold dDGet
    split
    · rename_i kvs q
      exact absurd ⟨kvs, q⟩ hd
    · rfl
theorem atDc_ok {K : PySem.W.Frag} {D : Ends} {F0 H0 F H : Hp} {ρ : Rho} {σ : L2.St} {f : List (Int × Int) → Rho → RS} (r : SRel K F0 H0 ρ σ F H) (hg : Good K xc W D F0 H0 F (atDc i f ρ)) :
    ∃ kvs a, ρ[i]? = some (some (.dc kvs)) ∧ σ[i]? = some (some (.ref a)) ∧ H a = some (dkOf kvs) ∧ Good K xc W D F0 H0 F (f kvs ρ) := by
  have hg : Good K xc W D F0 H0 F (match ρ[i]? with | some (some (.dc kvs)) => f kvs ρ | _ => .bad) := hg
  split at hg
  · rename_i kvs q
    obtain ⟨a, e1, _, _, h2⟩ := r.sl i _ q
    exact ⟨kvs, a, q, e1, h2, hg⟩
  · exact absurd rfl hg.nb
theorem ds_dput (h : PS X st (sDPut (tVar i) (eC X.K xc W kE gk) (eC X.K xc W kF gv))) : DS1 X xc W st (dDPut i gk gv) := PS.imp h fun D σ H ⟨F0, H0, ρ, F, r, hg⟩ => by
  refine eC.st r hg fun d v F2 H2 x r2 kk g2 => ?_
  obtain ⟨kvs, a, q, e, h2, hg⟩ := atDc_ok r2 g2
  refine ⟨.ref a, e, eC.st r2 hg fun d3 v3 F3 H3 x3 r3 k3 g3 => ?_⟩
  cases d3 with
  | int m =>
    cases d with
    | int y =>
      cases kk
      have g4 : Good X.K xc W D F0 H0 F3 (if kvs.length < lim then .ok (.nx ((noDc ρ).set i (some (.dc (putI kvs m y))))) else .bad) := g3
      split at g4
      · rename_i hl
        refine ⟨a, upd H3 a (dkOf (putI kvs m y)), rfl, ?_, g4.nx _ rfl _ F3 _ (.refl _) (r3.putDc e q)⟩
        rw [k3.int]
        have := DPut.k (k := .inl m) (v := .int y) (x3.hh _ _ h2) (by rw [List.length_map]; exact Nat.lt_of_lt_of_le hl lim_le)
        rw [putI_eq] at this
        exact this
      · exact absurd rfl g4.nb
    | _ => exact absurd rfl g3.nb
  | _ => cases d <;> exact absurd rfl g3.nb
end
end VS
end
section
set_option Elab.async false
set_option linter.all false
set_option maxRecDepth 100000
set_option autoImplicit false
namespace VS
open PySem L2
def repL : PyData → PyData → Option PyData
  | .list xs, .int k => if smallI k = true ∧ xs.length * k.toNat ≤ lim then some (.list (List.replicate k.toNat xs).flatten) else none
  | _, _ => none
theorem dqa_app {K : PySem.W.Frag} {H : Hp} : ∀ {xs ys : List V} {ds es : List PyData}, DqAll K H xs ds → DqAll K H ys es → DqAll K H (xs ++ ys) (ds ++ es)
  | _, _, _, _, .nil, g => g
  | _, _, _, _, .cons h t, g => .cons h (dqa_app t g)
theorem dqa_rep {K : PySem.W.Frag} {H : Hp} {xs : List V} {ds : List PyData} (h : DqAll K H xs ds) : ∀ n : Nat, DqAll K H (List.replicate n xs).flatten (List.replicate n ds).flatten
  | 0 => .nil
  | n + 1 => by
    rw [List.replicate_succ, List.replicate_succ, List.flatten_cons, List.flatten_cons]
    exact dqa_app h (dqa_rep h n)
def dAsgT (b : PyData → Rho → Option Rho) (g : Rho → RE PyData) : Rho → RS := stE g fun d ρ => match b d ρ with
  | some ρ' => .ok (.nx ρ')
  | none => .bad
section
variable {X : Cx} {xc : Nat → Addr} {W : WX} {a b : Expr} {g ga gb : Rho → RE PyData} {pos : Pos} {st : Stmt} {gt : TG} {bt : PyData → Rho → Option Rho}
theorem de_repL (ha : DE X xc W kN a ga) (hb : DE X xc W kE b gb) : DE X xc W kN (.BinOp a .Mult b pos) (dBin repL ga gb) := PE.imp (pe_op op_rep ha hb) fun σ H Q ⟨F0, H0, ρ, F, r, hbd, hq, hx⟩ => by
  refine eC.go r hbd hx fun d ed v F1 H1 x1 r1 k1 hb1 hx1 => ?_
  refine eC.go r1 hb1 hx1 fun d2 ed2 v2 F2 H2 x2 r2 k2 hb2 hx2 => ?_
  obtain ⟨z, ez⟩ := R.of_ne_bad hb2
  have eq : dBin repL ga gb ρ = .ok z := by show (ga ρ).bind _ = _; rw [ed, R.bind_ok, ed2, R.bind_ok, ez]; rfl
  obtain ⟨p, vs, ds, rfl, rfl, h1, h2, h3, h4⟩ := k1
  cases d2 with
  | int k =>
    have ez2 : (if smallI k = true ∧ ds.length * k.toNat ≤ lim then some (PyData.list (List.replicate k.toNat ds).flatten) else none) = some z := ez
    split at ez2
    · rename_i hl
      cases ez2
      have hs := smallI_ok hl.1
      refine ⟨p, k, vs, rfl, k2.int, x2.hh _ _ h3, by omega, by omega, by rw [dpa_length h4]; exact le_lim hl.2, fun q hq2 => hq _ eq _ F2 _ ((x1.trans x2).trans (.own r2.same hq2)) ⟨q, _, _, rfl, rfl, (x1.trans x2).hh.free hq2, r2.same.free hq2, upd_same, dqa_rep (dpa_mono x2.ff h4) _⟩⟩
    · cases ez2
  | _ => cases ez
theorem ds_asgT (h : PS X st (tAsg (eC X.K xc W kF g) gt)) (hb : GOk X.K gt bt) : DS1 X xc W st (dAsgT bt g) := PS.imp h fun D σ H ⟨F0, H0, ρ, F, r, hg⟩ =>
  eC.st r hg fun d v F2 H2 x r2 kk g2 => by
    have g2 : Good X.K xc W D F0 H0 F2 (match bt d ρ with | some ρ' => .ok (.nx ρ') | none => .bad) := g2
    cases hq : bt d ρ with
    | none => rw [hq] at g2; exact absurd rfl g2.nb
    | some ρ' =>
      rw [hq] at g2
      exact hb F0 H0 ρ σ F2 H2 v d ρ' _ r2 kk hq fun σ' r' => g2.nx _ rfl σ' F2 H2 (.refl _) r'
end
end VS
end
section
set_option Elab.async false
set_option linter.all false
set_option maxRecDepth 100000
set_option autoImplicit false
namespace VS
open PySem L2
def strsOf : List PyData → Option (List Str)
  | [] => some []
  | .str x :: r => (strsOf r).map (x :: ·)
  | _ :: _ => none
theorem strsOf_eq : ∀ {xs : List PyData} {ys : List Str}, strsOf xs = some ys → xs = ys.map .str
  | [], _, h => by cases h; rfl
  | d :: r, ys, h => by
    cases d with
    | str x =>
      cases q : strsOf r with
      | none => simp [strsOf, q] at h
      | some zs =>
        simp [strsOf, q] at h
        subst h
        rw [strsOf_eq q]
        rfl
    | _ => cases h
theorem dqa_strs {K : PySem.W.Frag} {H : Hp} : ∀ {vs : List V} {ys : List Str}, DqAll K H vs (ys.map .str) → vs = ys.map V.str
  | _, [], h => by cases h; rfl
  | _, y :: ys, h => by
    cases h with
    | cons h t =>
      cases h
      rw [dqa_strs t]
      rfl
def joinD (a : Str) : PyData → Option PyData
  | .list xs => (strsOf xs).bind fun ys => if (ys.map (·.length)).sum + ys.length * a.length ≤ lim then some (.str (Txt.join a ys)) else none
  | _ => none
def dJoin (go g : Rho → RE PyData) : Rho → RE PyData := onStr go fun a ρ => (g ρ).bind fun d => R.of (joinD a d)
section
variable {X : Cx} {xc : Nat → Addr} {W : WX} {o e : Expr} {go g : Rho → RE PyData} {pos apos : Pos}
theorem de_join (ho : DE X xc W kE o go) (he : DE X xc W kE e g) (hs : starEach [e] X.env = [(false, eval e X.env)] := by rfl) (hbase : attributeBase o "join" X.env (eval o X.env) = eval o X.env := by rfl) (hline : (apos.endLine == pos.line) = true := by rfl) :
    DE X xc W kF (.Call (.Attribute o "join" apos) [e] [] pos) (dJoin go g) := PE.imp (pe_join ho he hs hbase hline) fun σ H Q ⟨F0, H0, ρ, F, r, hbd, hq, hx⟩ => by
  refine eC.go r hbd hx fun d ed v F1 H1 x1 r1 k1 hb1 hx1 => ?_
  cases d with
  | str a =>
    refine ⟨⟨a, k1.str⟩, eC.go r1 hb1 hx1 fun d2 ed2 v2 F2 H2 x2 r2 k2 hb2 hx2 => ?_⟩
    obtain ⟨z, ez⟩ := R.of_ne_bad hb2
    have eq : dJoin go g ρ = .ok z := by
      show (go ρ).bind _ = _
      rw [ed, R.bind_ok]
      show (g ρ).bind _ = _
      rw [ed2, R.bind_ok, ez]
      rfl
    cases d2 with
    | list xs =>
      have ez2 : ((strsOf xs).bind fun ys => if (ys.map (·.length)).sum + ys.length * a.length ≤ lim then some (PyData.str (Txt.join a ys)) else none) = some z := ez
      cases q : strsOf xs with
      | none => rw [q] at ez2; cases ez2
      | some ys =>
        rw [q] at ez2
        have ez3 : (if (ys.map (·.length)).sum + ys.length * a.length ≤ lim then some (PyData.str (Txt.join a ys)) else none) = some z := ez2
        split at ez3
        · rename_i hl
          cases ez3
          have e := strsOf_eq q
          subst e
          obtain ⟨p, vs, rfl, h1, h2⟩ := k2.lst r2.same
          have e := dqa_strs h2
          subst e
          exact ⟨a, p, ys, k1.str, rfl, .inl h1, Nat.le_trans hl (by decide), hq _ eq _ F2 H2 (x1.trans x2) (.str _)⟩
        · cases ez3
    | _ => cases ez
  | _ => exact absurd rfl hb1
end
end VS
end
section
set_option Elab.async false
set_option linter.all false
set_option maxRecDepth 100000
set_option autoImplicit false
namespace VS
open PySem L2 PyProof.Rows
/-! ### sum of a tuple -/
section
variable {prog : Program} {w : World} {A : Around} {E : Value → Shared → Prop} {s : Shared} {l : Addr} {xs : Array (Int × Tok)}
theorem iter_intTup {Q : Value → Shared → Prop} (hl : s.heap.IsTuple l (intItems xs))
    (h : ∀ s₂ : Shared, s₂ = { s with heap := s.heap.push { cls := .type "tuple_iterator", data := .fields #[.ref l, .int 0 0] } } →
      (s₂.heap.IsTupleIter s.heap.objs.size l 0 ∧ s₂.heap.IsTuple l (intItems xs)) → (∀ b ∈ [s.heap.objs.size, l], b < s₂.heap.objs.size) → l ≠ s.heap.objs.size → Q (.ref s.heap.objs.size) s₂) :
    wpAny (model prog w) A (pyIter (.ref l)) Q E s := by
  have hlt : l < s.heap.objs.size := by obtain ⟨_, e, _⟩ := hl; exact Heap.lt_size e
  refine wpAny_pyIter_tuple hl (h _ rfl ⟨⟨_, Heap.get?_push_size _ rfl, rfl, rfl⟩, hl.push _⟩ (fun b hb => ?_) (Nat.ne_of_lt hlt))
  show b < (s.heap.push _).objs.size
  rw [Heap.size_push]
  rcases List.mem_cons.mp hb with rfl | hb
  · exact Nat.lt_succ_self _
  · rcases List.mem_cons.mp hb with rfl | hb
    · exact Nat.lt_succ_of_lt hlt
    · cases hb
theorem sum_intTup {Q : Value → Shared → Prop} (hh : A.handled = none) (hl : s.heap.IsTuple l (intItems xs))
    (h : ∀ h' tk t', (∀ b o, s.heap.get? b = some o → h'.get? b = some o) → Q (.int (preSum (numAt xs) xs.size) t') { s with heap := h', toks := tk }) :
    wpAny (model prog w) A (call (.builtin "sum") [.ref l]) Q E s := by
  refine call_sum_walkG (iter_intTup hl fun s₂ e st hfp hlI => ?_)
  subst e
  refine ⟨_, _, _, _, _, _, numAt xs, rfl, Walks.tuple (A := A.in1) hh _ l hlI (intItems xs), st, hfp, (fun _ _ => intItems_at), fun h' tk t' hk => ?_⟩
  have hk' : ∀ b o, s.heap.get? b = some o → h'.get? b = some o := fun b o e => by
    refine hk b o (fun hm => ?_) (Heap.get?_push_of_some _ e)
    rcases List.mem_cons.mp hm with e1 | hm
    · exact absurd (e1 ▸ Heap.lt_size e) (Nat.lt_irrefl _)
    · cases hm
  have := h h' tk t' hk'
  simpa [intItems] using this
end
section
variable {prog : Program} {w : World} {A : Around} {E : Value → Shared → Prop} {s : Shared} {l : Addr} {its : List Value} {ns : List Int} {Q : Value → Shared → Prop}
theorem sum_rawT (hh : A.handled = none) (hl : s.heap.IsTuple l its.toArray) (hi : IntsAre its ns)
    (h : ∀ h' tk t', (∀ b o, s.heap.get? b = some o → h'.get? b = some o) → Q (.int ns.sum t') { s with heap := h', toks := tk }) : wpAny (model prog w) A (call (.builtin "sum") [.ref l]) Q E s := by
  obtain ⟨xs, e⟩ := hi.allInts.items
  have hn : numsOf (intItems xs).toList = ns := by rw [← e]; exact hi.numsOf
  rw [nums_intItems] at hn
  rw [e] at hl
  refine sum_intTup hh hl fun h' tk t' hk => ?_
  have := h h' tk t' hk
  rw [preSum_eq, List.take_of_length_le (by simp), hn]; exact this
end
def rSumT (K : PySem.W.Frag) : List V → Hp → VK → Prop := fun vs H Q => ∃ (a : Addr) (ns : List Int), vs = [V.ref a] ∧ SqT K H a (ns.map V.int) ∧ Q (.int ns.sum) H
theorem cr_sumT {X : Cx} (hc : X.calm = true) : CallR X (.builtin "sum") (rSumT X.K) := by
  intro pins s σ H vs us Q I r h
  obtain ⟨a, ns, rfl, hs, q⟩ := h
  obtain ⟨its, rv, hl, _⟩ := I.tuple hs
  rw [Vals.ref1 r]
  exact sum_rawT (I.ok.hd hc) (show s.heap.IsTuple a its.toArray from hl) rv.ints fun h' tk t' hk => ⟨.int _, H, I.kept hk, ⟨_, rfl⟩, q⟩
def sumT : PyData → Option PyData
  | .tuple xs => (intsOf xs).map fun ns => .int ns.sum
  | _ => none
section
variable {X : Cx} {xc : Nat → Addr} {W : WX} {e : Expr} {g : Rho → RE PyData} {pos p : Pos}
theorem de_sumT (hc : X.calm = true) (hg : Gl X "sum") (hm : X.mg "sum" = none) (h : DE X xc W kE e g) (hst : starEach [e] X.env = (false, eval e X.env) :: starEach [] X.env := by rfl) : DE X xc W kF (.Call (.Name "sum" p) [e] [] pos) (dUn sumT g) := by
  refine de_cB kF_back (fun F H x d z Q sm hx ho hq => ?_) (cr_sumT hc) hg hm boot_sum h (by decide) (by decide) hst
  unfold sumT at ho
  split at ho
  · rename_i xs
    cases q : intsOf xs with
    | none => rw [q] at ho; cases ho
    | some ns =>
      rw [q] at ho
      have e := intsOf_eq q
      subst e
      obtain ⟨a, vs, rfl, h1, h2⟩ := hx.tup sm
      have e := dpa_ints h2
      subst e
      cases ho
      exact ⟨a, ns, rfl, (sqn_mono sm h1).sq, hq _ F H (.refl sm) (.int _)⟩
  · cases ho
end
end VS
end
section
set_option Elab.async false
set_option linter.all false
set_option maxRecDepth 100000
set_option autoImplicit false
namespace VS
open PySem L2 PyProof.Rows PySem.W
/-! ### len(sorted(set(ps))), ps a list of pairs of ints -/
def ddupL : List (List Int) → List (List Int)
  | [] => []
  | x :: xs => if x ∈ xs then ddupL xs else x :: ddupL xs
theorem mem_ddupL {y : List Int} : ∀ {xs : List (List Int)}, y ∈ ddupL xs ↔ y ∈ xs
  | [] => Iff.rfl
  | x :: xs => by
    unfold ddupL
    split
    · rename_i h
      rw [mem_ddupL, List.mem_cons]
      exact ⟨.inr, fun z => z.elim (fun e => e ▸ h) id⟩
    · rw [List.mem_cons, List.mem_cons, mem_ddupL]
theorem nodup_ddupL : ∀ xs : List (List Int), (ddupL xs).Nodup
  | [] => List.nodup_nil
  | x :: xs => by
    unfold ddupL
    split
    · exact nodup_ddupL xs
    · rename_i h
      exact List.nodup_cons.mpr ⟨fun z => h (mem_ddupL.mp z), nodup_ddupL xs⟩
theorem nodup_lenL : ∀ (l D : List (List Int)), l.Nodup → (∀ x ∈ l, x ∈ D) → l.length ≤ D.length
  | [], D, _, _ => Nat.zero_le _
  | x :: l, D, hn, h => by
    have hx : x ∈ D := h x List.mem_cons_self
    obtain ⟨h1, h2⟩ := List.nodup_cons.mp hn
    have ih := nodup_lenL l (D.erase x) h2 fun y hy => (List.mem_erase_of_ne (fun (e : y = x) => h1 (e ▸ hy))).mpr (h y (List.mem_cons_of_mem _ hy))
    rw [List.length_erase_of_mem hx] at ih
    have : 0 < D.length := List.length_pos_of_mem hx
    rw [List.length_cons]; omega
def tupsOf : List PyData → Option (List (List Int))
  | [] => some []
  | .tuple xs :: r => (intsOf xs).bind fun ns => (tupsOf r).map (ns :: ·)
  | _ :: _ => none
def prB (ns : List Int) : Bool := decide (ns.length = 2) && ns.all fun i => decide (0 ≤ i ∧ i < 1000)
def lenSSD : PyData → Option PyData
  | .list xs => (tupsOf xs).bind fun ks => if ks.length < 64 ∧ ks.all prB = true then some (.int ((ddupL ks).length : Nat)) else none
  | _ => none
theorem tups_refs {K : PySem.W.Frag} {F H : Hp} (sm : Same F H) : ∀ {xs : List PyData} {vs : List V} {ks : List (List Int)}, DqAll K F vs xs → tupsOf xs = some ks → ∃ ps : List (Addr × List Int), vs = ps.map (fun p => V.ref p.1) ∧ ps.map (·.2) = ks ∧ ∀ p ∈ ps, SqT K H p.1 (p.2.map V.int)
  | [], vs, ks, h, e => by
    cases h
    cases e
    exact ⟨[], rfl, rfl, fun p hp => by cases hp⟩
  | d :: xs, vs, ks, h, e => by
    cases h with
    | cons h1 h2 =>
      cases d with
      | tuple ys =>
        have e' : (intsOf ys).bind (fun ns => (tupsOf xs).map (ns :: ·)) = some ks := e
        cases q : intsOf ys with
        | none => rw [q] at e'; cases e'
        | some ns =>
          rw [q] at e'
          cases q2 : tupsOf xs with
          | none => rw [q2] at e'; cases e'
          | some ks' =>
            rw [q2] at e'
            cases e'
            obtain ⟨ps, g1, g2, g3⟩ := tups_refs sm h2 q2
            have ei := intsOf_eq q
            subst ei
            cases h1 with
            | tup a1 a2 =>
              have ev := dpa_ints a2
              subst ev
              rename_i a
              refine ⟨(a, ns) :: ps, by rw [g1]; rfl, by rw [← g2]; rfl, fun p hp => ?_⟩
              rcases List.mem_cons.mp hp with rfl | hp
              · exact (sqn_mono sm a1).sq
              · exact g3 p hp
      | _ => cases e
section
variable {X : Cx} {xc : Nat → Addr} {W : WX} {a : Expr} {g : Rho → RE PyData} {pos p p1 p2 p3 p4 : Pos}
theorem de_lenSS (hc : X.calm = true) (hu : X.A.units + 65 < cLine) (hg : Gl X "len") (hm : X.mg "len" = none) (hg1 : Gl X "sorted") (hm1 : X.mg "sorted" = none) (hg2 : Gl X "set") (hm2 : X.mg "set" = none) (h : DE X xc W kE a g)
    (na : starEach [a] X.env = (false, eval a X.env) :: starEach [] X.env := by rfl) (nb : starEach [.Call (.Name "set" p1) [a] [] p2] X.env = (false, eval (.Call (.Name "set" p1) [a] [] p2) X.env) :: starEach [] X.env := by rfl)
    (nc : starEach [.Call (.Name "sorted" p3) [.Call (.Name "set" p1) [a] [] p2] [] p4] X.env = (false, eval (.Call (.Name "sorted" p3) [.Call (.Name "set" p1) [a] [] p2] [] p4) X.env) :: starEach [] X.env := by rfl) :
    DE X xc W kF (.Call (.Name "len" p) [.Call (.Name "sorted" p3) [.Call (.Name "set" p1) [a] [] p2] [] p4] [] pos) (dUn lenSSD g) :=
  PE.imp (pe_callB call_len hg hm PySem.boot_len (pa_cons (pe_callB (cr_sortedT hc) hg1 hm1 boot_sorted (pa_cons (pe_callTy (cr_setOfT hc (by omega)) hg2 hm2 PyProof.Rows.boot_set (pa_cons h pa_nil na) (by decide) (by decide) na) pa_nil nb) (by decide) (by decide) nb) pa_nil nc) (by decide) (by decide) nc) fun σ H Q ⟨F0, H0, ρ, F, r, hb, hq, hx⟩ => by
  refine eC.go r hb hx fun d ed v F1 H1 x1 r1 k1 hb1 hx1 => ?_
  obtain ⟨z, ez⟩ := R.of_ne_bad hb1
  have eq : dUn lenSSD g ρ = .ok z := by show (g ρ).bind _ = _; rw [ed, R.bind_ok, ez]; rfl
  cases d with
  | list xs =>
    have ez' : ((tupsOf xs).bind fun ks => if ks.length < 64 ∧ ks.all prB = true then some (PyData.int ((ddupL ks).length : Nat)) else none) = some z := ez
    cases q : tupsOf xs with
    | none => rw [q] at ez'; cases ez'
    | some ks =>
      rw [q] at ez'
      have ez2 : (if ks.length < 64 ∧ ks.all prB = true then some (PyData.int ((ddupL ks).length : Nat)) else none) = some z := ez'
      split at ez2
      · rename_i hks
        cases ez2
        obtain ⟨l, vs, rfl, h1, h2⟩ := k1.lst r1.same
        obtain ⟨ps, rfl, rfl, h3⟩ := tups_refs r1.same h2 q
        have hpr : ∀ p ∈ ps, p.2.length = 2 ∧ TS.Bd 1000 p.2 := fun p hp => by
          have := List.all_eq_true.mp hks.2 p.2 (List.mem_map_of_mem hp)
          rw [prB, Bool.and_eq_true, decide_eq_true_eq] at this
          exact ⟨this.1, fun m hm => of_decide_eq_true (List.all_eq_true.mp this.2 m hm)⟩
        refine ⟨l, ps, rfl, h1, h3, by simpa using hks.1, fun b L hbn hL1 hL2 => ?_⟩
        have sb : Same H1 (upd H1 b (SetTO X.prog X.w b L)) := same_upd hbn
        refine ⟨b, L, 2, 1000, rfl, upd_same, fun p hp => ?_, by decide, fun p hp => hpr p (hL1 p hp), fun L' c hpm hnd hl64 _ hcn => ?_⟩
        · exact sqt_mono sb (h3 p (hL1 p hp))
        · have hlen : L'.length = (ddupL (ps.map (·.2))).length := by
            have e1 := nodup_lenL (L'.map (·.2)) (ddupL (ps.map (·.2))) hnd fun y hy => by
              obtain ⟨p, hp, rfl⟩ := List.mem_map.mp hy
              exact mem_ddupL.mpr (List.mem_map_of_mem (hL1 p (hpm.mem_iff.mp hp)))
            have e2 := nodup_lenL (ddupL (ps.map (·.2))) (L'.map (·.2)) (nodup_ddupL _) fun y hy => by
              obtain ⟨p, hp, rfl⟩ := List.mem_map.mp (mem_ddupL.mp hy)
              obtain ⟨q, hq, e⟩ := List.mem_map.mp (hL2 p hp)
              exact List.mem_map.mpr ⟨q, hpm.mem_iff.mpr hq, e⟩
            rw [List.length_map] at e1 e2
            omega
          refine ⟨_, L'.length, rfl, .inl ⟨_, SqL.of upd_same, by rw [List.length_map]⟩, ?_⟩
          refine hq _ eq _ F1 _ ((x1.trans (.own r1.same hbn)).trans (.own (r1.same.trans sb) hcn)) ?_
          rw [hlen]
          exact .int _
      · cases ez2
  | _ => cases ez
end
/-- a def that is never called -/
theorem fn_bad {P : Program} {w : World} {K : PySem.W.Frag} {mg : Str → Option Value} {base : Heap} {xc : Nat → Addr} {m : Nat} {f : Addr} {fd : FuncData} {ps : List Str} {ks : List Bool} : FnOk P w K mg base (L2.CX P w) m f fd ps (spD K xc ks fun _ => .bad) :=
  ⟨fun _ _ _ _ ⟨_, _, _, _, hb, _⟩ => absurd rfl hb, fun _ _ _ _ _ _ _ _ _ _ _ _ _ ⟨_, _, _, _, hb, _⟩ => absurd rfl hb⟩
end VS
end
section
set_option Elab.async false
set_option linter.all false
set_option maxRecDepth 100000
set_option autoImplicit false
namespace VS
open PySem PySem.Spec PyProof.Rows L2
/-! ### try with several clauses, each with a name for the exception -/
def wAsM (K : PySem.W.Frag) (i : Nat) (Wo : WX) (D : Ends) : List (Value × (Addr → Value → Option Addr → TS)) → WX
  | [] => Wo
  | (c, ts) :: r => wAs K c i ts (wAsM K i Wo D r) D
inductive HdA (X : Cx) (n : Str) : List ExceptHandler → List (Value × (Addr → Value → Option Addr → TS)) → Prop
  | nil : HdA X n [] []
  | cons {x : Str} {c : Value} {ts : Addr → Value → Option Addr → TS} {b₀ : Stmt} {su : List Stmt} {np ps : Pos} {hds : List ExceptHandler} {l : List (Value × (Addr → Value → Option Addr → TS))} (nm : Names X x c)
      (hsu : ∀ (a : Addr) (oe : Obj) (cls : Value) (d : Option Addr) (pn : List (Addr × Obj)), Zc cls d oe → (∃ vs, oe.data = .fields vs) → PSs (X.suite a ((a, oe) :: pn)) (b₀ :: su) (ts a cls d)) (r : HdA X n hds l) : HdA X n (.ExceptHandler (some (.Name x np)) (some n) (b₀ :: su) ps :: hds) ((c, ts) :: l)
section
variable {X : Cx} {n : Str} {i : Nat} {body : List Stmt} {h₀ : ExceptHandler} {hds : List ExceptHandler} {l : List (Value × (Addr → Value → Option Addr → TS))} {pos : Pos} {tb : WX → TS} {Wo : WX}
theorem ps_try_asM (est : X.stack = X.env :: X.outer) (efr : X.env.frame = some X.env.locals) (nd : X.N.Nodup) (hi : X.N[i]? = some n) (lk : X.env.kindOf n = some .local) (tk : Takes X Wo)
    (hb : ∀ (W : WX) (pn : List (Addr × Obj)) (xe : Value → Shared → Prop), Takes (X.tr pn xe) W → PassesOwn (model X.prog X.w) X.A X.env xe → PSs (X.tr pn xe) body (tb W)) (hh : HdA X n (h₀ :: hds) l) :
    PS X (.Try body (h₀ :: hds) [] [] pos) (fun D σ H => tb (wAsM X.K i Wo D l) D σ H) := ⟨fun pins s σ H D I q0 => by
  have frs0 : X.A.frames = some (X.env :: X.outer) := I.ok.frames.trans (by rw [est])
  have run := (hb (wAsM X.K i Wo D l) (X.pn ++ pins) (fun e s1 => wpAny (model X.prog X.w) X.A (noteFrame e X.env) (fun _ s2 => wpAny (model X.prog X.w) X.A (setFlight e none) (fun _ s3 => wpAny (model X.prog X.w) X.A (handleBy e X.env (h₀ :: hds)) (SP X pins D) X.xe s3) X.xe s2) X.xe s1) (fun u s' got => by
      obtain ⟨a, B, sI, pinsT, σ', H', cls, d, rfl, JT, nb, up, sky, na, os, ag, want⟩ := got
      have J : Inv X pins σ' H' sI := JT.ofTry I.ok
      rw [est] at sky
      show wpAny (model X.prog X.w) X.A (noteFrame (.ref a) X.env) _ _ _
      refine Sky.land Zc.steady frs0 efr sky fun h3 fl up3 => ?_
      have J3 : Inv X pins σ' H' { s' with heap := h3 } := J.landed nb fl.1 (up.trans up3) os ag
      obtain ⟨oe, vs, ge, ze, de⟩ := fl.there
      have far : a ∉ frs (X.env :: X.outer) := fun hm => by
        obtain ⟨_, o', g', nf⟩ := fl.2.2.1.mem hm
        cases ge.symm.trans g'
        exact nf _ de
      have farL : a ≠ X.env.locals := fun z => far (List.mem_filterMap.mpr ⟨X.env, List.mem_cons_self, by rw [efr, z]⟩)
      have farF : a ∉ X.fs := fun hm => by
        obtain ⟨e, he, q⟩ := List.mem_filterMap.mp hm
        exact far (List.mem_filterMap.mpr ⟨e, List.mem_cons_of_mem _ he, q⟩)
      have S3 := J3.suite ge de na farL farF
      have all : ∀ {hs : List ExceptHandler} {ls : List (Value × (Addr → Value → Option Addr → TS))}, HdA X n hs ls → wAsM X.K i Wo D ls cls d σ' H' → wpAny (model X.prog X.w) X.A (handleBy (.ref a) X.env hs) (SP X pins D) X.xe { s' with heap := h3 } := by
        intro hs ls hk
        induction hk with
        | nil =>
          intro wn
          refine wpAny_handleBy_nil ?_
          obtain ⟨_, _, _, oe', vs', T, _, _, ge', _, de', tb', _⟩ := id fl
          unfold PySem.passOn
          refine wpAny_bind (wpAny_field ge' de' tb' ?_)
          rw [if_neg (by simp)]
          have last : wpAny (model X.prog X.w) X.A (setFlight (.ref a) X.env.frame) (fun _ s4 => wpAny (model X.prog X.w) X.A (throw (.ref a) : Sem Flow) (SP X pins D) X.xe s4) X.xe { s' with heap := h3 } := by
            rw [efr]
            exact HandSPX.setFlight_upZ fl fun h4 hh4 up4 => wpAny_throw (tk _ _ ⟨a, B, sI, pins, σ', H', cls, d, rfl, J, nb, (up.trans up3).trans up4, .inr (.inr (by rw [est]; exact hh4)), na, os, ag, wn⟩)
          first
            | exact wpAny_bind (wpAny_pure (wpAny_bind last))
            | exact wpAny_bind last
        | @cons x c ts b₀ su np ps hds2 l2 nm hsu r ih =>
          rintro ⟨b, eb, yes, no⟩
          refine wpAny_handleBy_cons (codeAny_handlers_test ?_) (by intro q; cases q)
          have ty : PySem.W.Looks (model X.prog X.w) h3 (typeOf (.ref a)) cls := fun A Q E s k q => wpAny_typeOf_ref (k _ _ ge) (by rw [ze.1]; exact q)
          have mt := PySem.W.exm_one (M := model X.prog X.w) J3.kIn ty eb
          have load : ∀ {Q E : Value → Shared → Prop}, Q c { s' with heap := h3 } → wpAny (model X.prog X.w) (X.A.mark (some (.ref a))) (eval (.Name x np) X.env) Q E { s' with heap := h3 } := fun {Q E} q => by
            rcases nm with ⟨g1, g2, g3 | ⟨g3, g4, g5⟩⟩
            · exact ld_glob (X := X.suite a ((a, oe) :: (X.pn ++ pins))) S3 g1 g3 q g2
            · exact ld_blt (X := X.suite a ((a, oe) :: (X.pn ++ pins))) S3 g1 g3 g4 q g5 g2
          refine load (mt.here ?_)
          cases b with
          | false =>
            show wpAny _ X.A (handleBy (.ref a) X.env hds2) _ _ _
            exact ih (no rfl)
          | true =>
            refine codeAny_handlers_suite_as (HandSPX.lands_againZ fl fun h4 fl4 up4 => ?_)
            have J4 : Inv X pins σ' H' { s' with heap := h4 } := J.landed nb fl4.1 ((up.trans up3).trans up4) os ag
            obtain ⟨oe4, vs4, ge4, ze4, de4⟩ := fl4.there
            have S4 := J4.suite ge4 de4 na farL farF
            refine store_ok (X := X.suite a ((a, oe4) :: (X.pn ++ pins))) (v := .ref a) S4 nd hi (.inl lk) rfl (fun s5 S5 => ?_) (.inr lk)
            refine wpAny_mono ((hsu a oe4 cls d (X.pn ++ pins) ze4 ⟨_, de4⟩).run [] s5 _ H' _ S5 (yes rfl a na)) (fun f s6 fin => ?_) (fun _ _ z => False.elim z)
            have gone : ∀ {σ6 : L2.St} {H6 : Hp} {Q : Shared → Prop}, Inv (X.suite a ((a, oe4) :: (X.pn ++ pins))) [] σ6 H6 s6 → (∀ s7, Inv X pins (σ6.set i none) H6 s7 → Q s7) →
                wpAny (model X.prog X.w) X.A (do bindName X.env n .none; unbindBehindTheSuite X.env n ps) (fun _ s7 => Q s7) X.xe s6 := fun {σ6 H6 Q} S6 hq => gone_ok (S6.unsuite I.ok) nd hi lk hq
            match f, fin with
            | .next, ⟨σ6, H6, S6, q6⟩ => exact gone S6 fun s7 J7 => ⟨_, _, J7, q6⟩
            | .brk, ⟨σ6, H6, S6, q6⟩ => exact gone S6 fun s7 J7 => ⟨_, _, J7, q6⟩
            | .cont, ⟨σ6, H6, S6, q6⟩ => exact gone S6 fun s7 J7 => ⟨_, _, J7, q6⟩
            | .ret u, ⟨v6, σ6, H6, S6, r6, q6⟩ => exact gone S6 fun s7 J7 => ⟨_, _, _, J7, r6, q6⟩
      exact all hh want) PassesOwn.looking).run [] s σ H D (I.toTry _) q0
  refine wpAny_Try_except (wpAny_mono run (fun f s1 fin => ?_) (fun _ _ z => z))
  match f, fin with
  | .next, ⟨σ', H', J', q⟩ => exact wpAny_execs_nil ⟨σ', H', J'.ofTry I.ok, q⟩
  | .brk, ⟨σ', H', J', q⟩ => exact ⟨σ', H', J'.ofTry I.ok, q⟩
  | .cont, ⟨σ', H', J', q⟩ => exact ⟨σ', H', J'.ofTry I.ok, q⟩
  | .ret u, ⟨v, σ', H', J', r, q⟩ => exact ⟨v, σ', H', J'.ofTry I.ok, r, q⟩⟩
end
/-- one clause: which exceptions it takes, what its suite is worth -/
abbrev Cl := (Exc → Option Bool) × (Addr → Addr → Exc → Rho → RS)
def clD (i : Nat) : List Cl → Exc → Rho → RS
  | [], x, ρ => .ex (x, ρ)
  | (m, su) :: r, x, ρ => match m x with
    | some true => endS i (su 0 0 x (ρ.set i (some (exS 0 0 x))))
    | some false => clD i r x ρ
    | none => .bad
def dTryM (body : Rho → RS) (i : Nat) (cs : List Cl) : Rho → RS := fun ρ => match body ρ with
  | .ex (x, ρ') => clD i cs x ρ'
  | r => r
inductive HdV (X : Cx) (xc : Nat → Addr) (i : Nat) (n : Str) : List ExceptHandler → List Value → List Cl → Prop
  | nil : HdV X xc i n [] [] []
  | cons {x : Str} {c : Value} {m : Exc → Option Bool} {ss : Addr → Addr → Exc → Rho → RS} {b₀ : Stmt} {su : List Stmt} {np ps : Pos} {hds : List ExceptHandler} {vs : List Value} {cs : List Cl} (nm : Names X x c)
      (hm : ∀ y b, m y = some b → PySem.W.exmOne X.K (.ref (xc y.cls)) c = some b) (st : Steady i ss)
      (hsu : ∀ (a dd : Addr) (oe : Obj) (y : Exc) (d : Option Addr) (pn : List (Addr × Obj)), m y = some true → Zc (.ref (xc y.cls)) d oe → (∃ vs, oe.data = .fields vs) → (y.arg = none → d = none) → (∀ z, y.arg = some z → d = some dd) → DS (X.suite a ((a, oe) :: pn)) xc W0 (b₀ :: su) (ss a dd y))
      (r : HdV X xc i n hds vs cs) : HdV X xc i n (.ExceptHandler (some (.Name x np)) (some n) (b₀ :: su) ps :: hds) (c :: vs) ((m, ss) :: cs)
def tsOf (K : PySem.W.Frag) (xc : Nat → Addr) (p : Cl) : Addr → Value → Option Addr → TS := fun a cls d D σ H => ∃ (y : Exc) (dd : Addr), p.1 y = some true ∧ cls = .ref (xc y.cls) ∧ (y.arg = none → d = none) ∧ (∀ z, y.arg = some z → d = some dd) ∧ sC K xc W0 (p.2 a dd y) D σ H
section
variable {X : Cx} {xc : Nat → Addr} {W : WX} {n : Str} {i : Nat} {body : List Stmt} {h₀ : ExceptHandler} {hds : List ExceptHandler} {vs : List Value} {cs : List Cl} {pos : Pos} {sb : Rho → RS}
theorem HdV.a (h : HdV X xc i n hds vs cs) : HdA X n hds (vs.zip (cs.map (tsOf X.K xc))) := by
  induction h with
  | nil => exact .nil
  | cons nm hm st hsu r ih =>
    exact .cons nm (fun a oe cls d pn hz hf => ⟨fun pins s σ H D I q => by
      obtain ⟨y, dd, hy, ec, hd, hd2, q⟩ := q
      subst ec
      exact (hsu a dd oe y d pn hy hz hf hd hd2).run pins s σ H D I q⟩) ih
theorem HdV.w {D : Ends} {F0 H0 F' H' : Hp} {y : Exc} {ρ' : Rho} {σ' : L2.St} {dd : Option Addr} (h : HdV X xc i n hds vs cs) (g : Good X.K xc W D F0 H0 F' (clD i cs y ρ')) (r : SRel X.K F0 H0 ρ' σ' F' H') (xo : XOk X.K xc F' H' y (.ref (xc y.cls)) dd) :
    wAsM X.K i W D (vs.zip (cs.map (tsOf X.K xc))) (.ref (xc y.cls)) dd σ' H' := by
  induction h with
  | nil => exact g.ex y ρ' rfl _ dd σ' F' H' (.refl _) r xo
  | @cons x c m ss b₀ su np ps hds vs cs nm hm st hsu rest ih =>
    cases hmy : m y with
    | none =>
      exfalso
      refine g.nb ?_
      simp only [clD, hmy]
    | some b =>
      refine ⟨b, hm _ _ hmy, fun hb a ha => ?_, fun hb => ?_⟩
      · subst hb
        have g2 : Good X.K xc W D F0 H0 F' (endS i (ss 0 0 y (ρ'.set i (some (exS 0 0 y))))) := by
          simpa only [clD, hmy] using g
        obtain ⟨de, he, rx⟩ := r.setX (i := i) (a := a) xo
        refine ⟨y, de, hmy, rfl, fun ha0 => ?_, he, F0, H0, _, F', rx, Good.suite st g2 (fun _ _ => rfl) (fun _ _ => rfl)⟩
        have x2 := xo.2
        rw [ha0] at x2
        exact x2
      · subst hb
        exact ih (by simpa only [clD, hmy] using g)
theorem ds_tryM (est : X.stack = X.env :: X.outer) (efr : X.env.frame = some X.env.locals) (nd : X.N.Nodup) (hi : X.N[i]? = some n) (lk : X.env.kindOf n = some .local) (tk : Takes X W)
    (hb : ∀ (W : WX) (pn : List (Addr × Obj)) (xe : Value → Shared → Prop), Takes (X.tr pn xe) W → PassesOwn (model X.prog X.w) X.A X.env xe → DS (X.tr pn xe) xc W body sb) (hh : HdV X xc i n (h₀ :: hds) vs cs) :
    DS1 X xc W (.Try body (h₀ :: hds) [] [] pos) (dTryM sb i cs) := PS.imp (ps_try_asM (Wo := W) (tb := fun W => sC X.K xc W sb) est efr nd hi lk tk hb hh.a) fun D σ H ⟨F0, H0, ρ, F, r, hg⟩ => by
  have hg : Good X.K xc W D F0 H0 F (match sb ρ with | .ex (x, ρ') => clD i cs x ρ' | r => r) := hg
  refine ⟨F0, H0, ρ, F, r, ?_⟩
  cases q : sb ρ with
  | bad => rw [q] at hg; exact absurd rfl hg.nb
  | ok f =>
    rw [q] at hg
    exact ⟨hg.nb, hg.nx, hg.rt, (fun y ρ' e => nomatch e), hg.ry⟩
  | ex p =>
    obtain ⟨y, ρ'⟩ := p
    rw [q] at hg
    refine ⟨(fun z => nomatch z), (fun _ z => nomatch z), (fun _ z => nomatch z), fun y2 ρ2 e cls dd σ' F' H' sm r' xo => ?_, (fun _ _ z => nomatch z)⟩
    cases e
    have ec := xo.1
    subst ec
    exact hh.w (hg.mono sm) r' xo
end
end VS
end
section
set_option Elab.async false
set_option linter.all false
set_option maxRecDepth 100000
set_option autoImplicit false
namespace VS
open PySem PySem.Spec PyProof.Rows L2
section
variable {K : PySem.W.Frag} {F0 H0 F H F1 H1 : Hp} {ρ : Rho} {σ : L2.St}
/-- a new object with parts -/
theorem SRel.setC {i : Nat} {a : Addr} {cs : List Addr} {t : Cp} (r : SRel K F0 H0 ρ σ F H) (x : Fz F H F1 H1) (hn : ∀ y ∈ cs, H y = none ∧ F1 y = none) (g : CpOk K F1 H1 a cs t) (ga : CpAt F0 a t) : SRel K F0 H0 (ρ.set i (some (.cp t))) (σ.set i (some (.ref a))) F1 H1 := by
  have r2 := r.step x
  have old : ∀ (j : Nat) (u : Cp) (b : Addr) (es : List Addr), ρ[j]? = some (some (.cp u)) → σ[j]? = some (some (.ref b)) → CpOk K F1 H1 b es u → ∀ y ∈ cs, y ∉ es := fun j u b es h1 h2 h3 y hy => r.newp x (hn y hy).1 j u b es h1 h2 h3
  refine ⟨r2.fz, by rw [List.length_set, List.length_set, r2.ln], fun j sv e => ?_, fun j k ds es n e1 e2 => ?_, ⟨fun j k u ds b c es e1 e2 e3 e4 e5 => ?_, fun j k u ds b c es e1 e2 e3 e4 e5 => ?_, fun j k u v b c es fs n e1 e2 e3 e4 e5 e6 => ?_⟩⟩
  · rcases set_some e with ⟨rfl, q, hl⟩ | ⟨n, q⟩
    · cases q
      rw [List.getElem?_set_self (by rw [← r.ln]; exact hl)]
      exact ⟨a, cs, rfl, fun y hy => ⟨r.fz.hh.free (hn y hy).1, (hn y hy).2⟩, g, ga⟩
    · rw [List.getElem?_set_ne n]; exact r2.sl j sv q
  · rcases set_some e1 with ⟨_, q, _⟩ | ⟨n1, q1⟩
    · cases q
    rcases set_some e2 with ⟨_, q, _⟩ | ⟨n2, q2⟩
    · cases q
    rw [List.getElem?_set_ne n1, List.getElem?_set_ne n2]
    exact r2.df j k ds es n q1 q2
  · rcases set_some e2 with ⟨_, q, _⟩ | ⟨n2, q2⟩
    · cases q
    rw [List.getElem?_set_ne n2] at e4
    rcases set_some e1 with ⟨rfl, q, hl⟩ | ⟨n1, q1⟩
    · cases q
      rw [List.getElem?_set_self (by rw [← r.ln]; exact hl)] at e3
      cases e3
      rw [g.uq e5 rfl]
      intro hm
      obtain ⟨b, us, e, _, _, hh, _⟩ := r.sl k _ q2
      rw [e4] at e; cases e
      rw [(hn c hm).1] at hh; cases hh
    · rw [List.getElem?_set_ne n1] at e3
      exact r2.dj.ow j k u ds b c es q1 q2 e3 e4 e5
  · rcases set_some e2 with ⟨_, q, _⟩ | ⟨n2, q2⟩
    · cases q
    rw [List.getElem?_set_ne n2] at e4
    rcases set_some e1 with ⟨rfl, q, hl⟩ | ⟨n1, q1⟩
    · cases q
      rw [List.getElem?_set_self (by rw [← r.ln]; exact hl)] at e3
      cases e3
      rw [g.uq e5 rfl]
      intro hm
      obtain ⟨b, e, _, _, hh⟩ := r.sl k _ q2
      rw [e4] at e; cases e
      rw [(hn c hm).1] at hh; cases hh
    · rw [List.getElem?_set_ne n1] at e3
      exact r2.dj.dc j k u ds b c es q1 q2 e3 e4 e5
  · rcases set_some e1 with ⟨rfl, q, hl⟩ | ⟨n1, q1⟩
    · cases q
      rw [List.getElem?_set_self (by rw [← r.ln]; exact hl)] at e3
      cases e3
      rcases set_some e2 with ⟨rfl, _, _⟩ | ⟨n2, q2⟩
      · exact absurd rfl n
      rw [List.getElem?_set_ne n2] at e4
      rw [g.uq e5 rfl]
      exact old k v c fs q2 e4 e6
    · rw [List.getElem?_set_ne n1] at e3
      rcases set_some e2 with ⟨rfl, q, hl⟩ | ⟨n2, q2⟩
      · cases q
        rw [List.getElem?_set_self (by rw [← r.ln]; exact hl)] at e4
        cases e4
        rw [g.uq e6 rfl]
        exact fun y hy hm => old j u b es q1 e3 e5 y hm hy
      · rw [List.getElem?_set_ne n2] at e4
        exact r2.dj.cp j k u v b c es fs n q1 q2 e3 e4 e5 e6
/-- its parts are changed -/
theorem SRel.putC {i : Nat} {a : Addr} {cs : List Addr} {t t' : Cp} {H' : Hp} (r : SRel K F0 H0 ρ σ F H) (hi : ρ[i]? = some (some (.cp t))) (hs : σ[i]? = some (some (.ref a))) (g : CpOk K F H a cs t) (g' : CpOk K F H' a cs t') (ga : CpAt F0 a t → CpAt F0 a t') (ho : ∀ y, y ∉ cs → H' y = H y) : SRel K F0 H0 (ρ.set i (some (.cp t'))) σ F H' := by
  obtain ⟨b, cs0, e, hn, g0, ga0⟩ := r.sl i _ hi
  rw [hs] at e; cases e
  have := g0.uq g rfl
  subst this
  have sm : ∀ {G : Hp}, (∀ y ∈ cs, G y = none) → Same G H → Same G H' := fun {G} hG hS y o q => by
    have : y ∉ cs := fun hm => by rw [hG y hm] at q; cases q
    rw [ho y this]; exact hS y o q
  have keepA : ∀ (j : Nat) (u : Cp) (b : Addr), i ≠ j → ρ[j]? = some (some (.cp u)) → σ[j]? = some (some (.ref b)) → ∃ es, CpOk K F H b es u ∧ (∀ y ∈ es, H' y = H y) := fun j u b n h1 h2 => by
    obtain ⟨b', es, e, _, gu, _⟩ := r.sl j _ h1
    rw [h2] at e; cases e
    exact ⟨es, gu, fun y hy => ho y fun hm => r.dj.cp i j t u a b cs es n hi h1 hs h2 g gu y hm hy⟩
  have topA : ∀ (j : Nat) (u : Cp) (b : Addr), i ≠ j → ρ[j]? = some (some (.cp u)) → σ[j]? = some (some (.ref b)) → H' b = H b := fun j u b n h1 h2 => by
    obtain ⟨b', es, e, _, gu, _⟩ := r.sl j _ h1
    rw [h2] at e; cases e
    exact ho b fun hm => by
      cases u with
      | ol dss =>
        obtain ⟨bs, ee, _⟩ := id gu
        exact r.dj.cp i j t _ a b cs es n hi h1 hs h2 g gu b hm (by rw [ee]; exact List.mem_cons_self)
      | dn kvs =>
        obtain ⟨nkv, ee, _⟩ := id gu
        exact r.dj.cp i j t _ a b cs es n hi h1 hs h2 g gu b hm (by rw [ee]; exact List.mem_cons_self)
      | yd p st k =>
        obtain ⟨C, dx, l, vs, _, _, _, hF, _⟩ := id gu
        rw [(hn b hm).2] at hF; cases hF
  refine ⟨⟨r.fz.ff, sm (fun y hy => (hn y hy).1) r.fz.hh, sm (fun y hy => (hn y hy).2) r.fz.fh, r.fz.nw⟩, by rw [List.length_set, r.ln], fun j sv e => ?_, fun j k ds es n e1 e2 => ?_, ⟨fun j k u ds b c es e1 e2 e3 e4 e5 => ?_, fun j k u ds b c es e1 e2 e3 e4 e5 => ?_, fun j k u v b c es fs n e1 e2 e3 e4 e5 e6 => ?_⟩⟩
  · rcases set_some e with ⟨rfl, q, hl⟩ | ⟨n, q⟩
    · cases q
      exact ⟨a, cs, hs, hn, g', ga ga0⟩
    · have z := r.sl j sv q
      cases sv with
      | fr d => exact z
      | sh ds => exact z
      | ob b => exact z
      | dc kvs =>
        obtain ⟨c, e', h0', hf', hh'⟩ := z
        exact ⟨c, e', h0', hf', by rw [ho c (r.dj.dc i j t kvs a c cs hi q hs e' g)]; exact hh'⟩
      | ow ds =>
        obtain ⟨c, us, e', h0', hf', hh', hd'⟩ := z
        exact ⟨c, us, e', h0', hf', by rw [ho c (r.dj.ow i j t ds a c cs hi q hs e' g)]; exact hh', hd'⟩
      | cp u =>
        obtain ⟨c, es, e', h1, gu, gua⟩ := z
        obtain ⟨es', gu', hk⟩ := keepA j u c n q e'
        have := gu.uq gu' rfl
        subst this
        exact ⟨c, es', e', h1, gu'.mv (topA j u c n q e') hk (.refl _), gua⟩
      | pr p => exact z
  · rcases set_some e1 with ⟨_, q, _⟩ | ⟨n1, q1⟩
    · cases q
    rcases set_some e2 with ⟨_, q, _⟩ | ⟨n2, q2⟩
    · cases q
    exact r.df j k ds es n q1 q2
  · rcases set_some e2 with ⟨_, q, _⟩ | ⟨n2, q2⟩
    · cases q
    rcases set_some e1 with ⟨rfl, q, hl⟩ | ⟨n1, q1⟩
    · cases q
      rw [hs] at e3; cases e3
      rw [g'.uq e5 rfl]
      exact r.dj.ow i k t ds a c cs hi q2 hs e4 g
    · obtain ⟨es', gu, hk⟩ := keepA j u b n1 q1 e3
      rw [gu.uq e5 (topA j u b n1 q1 e3)]
      exact r.dj.ow j k u ds b c es' q1 q2 e3 e4 gu
  · rcases set_some e2 with ⟨_, q, _⟩ | ⟨n2, q2⟩
    · cases q
    rcases set_some e1 with ⟨rfl, q, hl⟩ | ⟨n1, q1⟩
    · cases q
      rw [hs] at e3; cases e3
      rw [g'.uq e5 rfl]
      exact r.dj.dc i k t ds a c cs hi q2 hs e4 g
    · obtain ⟨es', gu, hk⟩ := keepA j u b n1 q1 e3
      rw [gu.uq e5 (topA j u b n1 q1 e3)]
      exact r.dj.dc j k u ds b c es' q1 q2 e3 e4 gu
  · rcases set_some e1 with ⟨rfl, q, hl⟩ | ⟨n1, q1⟩
    · cases q
      rw [hs] at e3; cases e3
      rcases set_some e2 with ⟨rfl, _, _⟩ | ⟨n2, q2⟩
      · exact absurd rfl n
      obtain ⟨fs', gu, hk⟩ := keepA k v c n2 q2 e4
      rw [g'.uq e5 rfl, gu.uq e6 (topA k v c n2 q2 e4)]
      exact r.dj.cp i k t v a c cs fs' n hi q2 hs e4 g gu
    · obtain ⟨es', gu, hk⟩ := keepA j u b n1 q1 e3
      rw [gu.uq e5 (topA j u b n1 q1 e3)]
      rcases set_some e2 with ⟨rfl, q, hl⟩ | ⟨n2, q2⟩
      · cases q
        rw [hs] at e4; cases e4
        rw [g'.uq e6 rfl]
        exact r.dj.cp j i u t b a es' cs n q1 hi e3 hs gu g
      · obtain ⟨fs', gv, hk2⟩ := keepA k v c n2 q2 e4
        rw [gv.uq e6 (topA k v c n2 q2 e4)]
        exact r.dj.cp j k u v b c es' fs' n q1 q2 e3 e4 gu gv
end
end VS
end
section
set_option Elab.async false
set_option linter.all false
set_option maxRecDepth 100000
set_option autoImplicit false
namespace VS
open PySem PySem.Spec PyProof.Rows L2
/-! ### lists of lists of one's own -/
section
variable {K : PySem.W.Frag} {F0 H0 F H : Hp} {ρ : Rho} {σ : L2.St}
theorem dqa_refs {F' : Hp} : ∀ {bs : List Addr} {dss : List (List PyData)}, bs.length = dss.length → (∀ (i : Nat) (b : Addr) (ds : List PyData), bs[i]? = some b → dss[i]? = some ds → ∃ vs, F' b = some (.lst vs) ∧ DqAll K F' vs ds) → DqAll K F' (bs.map V.ref) (dss.map PyData.list)
  | [], [], _, _ => .nil
  | b :: bs, ds :: dss, hl, h => by
    obtain ⟨vs, g1, g2⟩ := h 0 b ds rfl rfl
    exact .cons (.lst (SqL.of g1) g2) (dqa_refs (by simpa using hl) fun i c es h1 h2 => h (i + 1) c es (by simpa using h1) (by simpa using h2))
theorem SRel.frzO {i : Nat} {dss : List (List PyData)} (r : SRel K F0 H0 ρ σ F H) (hi : ρ[i]? = some (some (.cp (.ol dss)))) : ∃ F', Same F F' ∧ SRel K F0 H0 (ρ.set i (some (.fr (.list (dss.map .list))))) σ F' H := by
  obtain ⟨a, cs, e, hn, g, _⟩ := r.sl i _ hi
  obtain ⟨bs, ecs, nd, h1, h2, h3⟩ := id g
  let F' : Hp := fun x => if x ∈ cs then H x else F x
  have fin : ∀ x, x ∈ cs → F' x = H x := fun x hx => if_pos hx
  have fout : ∀ x, x ∉ cs → F' x = F x := fun x hx => if_neg hx
  have sf : Same F F' := fun x o q => by
    by_cases hx : x ∈ cs
    · rw [(hn x hx).2] at q; cases q
    · rw [fout x hx]; exact q
  have fh : Same F' H := fun x o q => by
    by_cases hx : x ∈ cs
    · rw [fin x hx] at q; exact q
    · rw [fout x hx] at q; exact r.fz.fh x o q
  have fz : Fz F0 H0 F' H := ⟨r.fz.ff.trans sf, r.fz.hh, fh, fun x o q => by
    by_cases hx : x ∈ cs
    · exact .inr (hn x hx).1
    · rw [fout x hx] at q; exact r.fz.nw x o q⟩
  have dd : Dq K F' (.ref a) (.list (dss.map .list)) := .lst (SqL.of ((fin a (by rw [ecs]; simp)).trans h1)) (dqa_refs h2 fun j b ds hb hd => by
    obtain ⟨vs, g1, g2⟩ := h3 j b ds hb hd
    exact ⟨vs, (fin b (by rw [ecs]; exact List.mem_cons_of_mem _ (List.mem_of_getElem? hb))).trans g1, dpa_mono sf g2⟩)
  refine ⟨F', sf, fz, by rw [List.length_set, r.ln], fun j sv q => ?_, fun j k fs gs n e1 e2 => ?_, ?_⟩
  · rcases set_some q with ⟨rfl, q, hl⟩ | ⟨n, q⟩
    · cases q
      exact ⟨.ref a, e, dd⟩
    · have z := r.sl j sv q
      cases sv with
      | fr d => obtain ⟨v, e1, e2⟩ := z; exact ⟨v, e1, dp_mono sf e2⟩
      | sh fs => obtain ⟨b, us, e1, e2, e3⟩ := z; exact ⟨b, us, e1, e2, dpa_mono sf e3⟩
      | ob b => exact z
      | dc kvs =>
        obtain ⟨c, e', h0', hf', hh'⟩ := z
        exact ⟨c, e', h0', by rw [fout c (r.dj.dc i j _ kvs a c cs hi q e e' g)]; exact hf', hh'⟩
      | ow fs =>
        obtain ⟨c, us, e', h0', hf', hh', hd'⟩ := z
        exact ⟨c, us, e', h0', by rw [fout c (r.dj.ow i j _ fs a c cs hi q e e' g)]; exact hf', hh', dpa_mono sf hd'⟩
      | cp u =>
        obtain ⟨c, es, e', h1', gu, gua⟩ := z
        exact ⟨c, es, e', fun x hx => ⟨(h1' x hx).1, by rw [fout x fun hm => r.dj.cp i j _ u a c cs es n hi q e e' g gu x hm hx]; exact (h1' x hx).2⟩, gu.mv rfl (fun _ _ => rfl) sf, gua⟩
      | pr p => obtain ⟨v, e1, e2⟩ := z; exact ⟨v, e1, e2.mono sf⟩
  · rcases set_some e1 with ⟨_, q, _⟩ | ⟨n1, q1⟩
    · cases q
    rcases set_some e2 with ⟨_, q, _⟩ | ⟨n2, q2⟩
    · cases q
    exact r.df j k fs gs n q1 q2
  · refine (r.dj.heap fun j t c h1 h2 => ?_).keep (fun j t e => ?_) (fun j t e => ?_) (fun j t e => ?_)
    · obtain ⟨c', es, e', _, gu, _⟩ := r.sl j _ h1
      rw [h2] at e'; cases e'
      exact ⟨es, gu, rfl⟩
    · rcases set_some e with ⟨_, q, _⟩ | ⟨n, q⟩
      · cases q
      · exact ⟨q, rfl⟩
    · rcases set_some e with ⟨_, q, _⟩ | ⟨n, q⟩
      · cases q
      · exact ⟨_, q, rfl⟩
    · rcases set_some e with ⟨_, q, _⟩ | ⟨n, q⟩
      · cases q
      · exact ⟨_, q, rfl⟩
end
def dFrzO (i : Nat) (g : Rho → RS) : Rho → RS := fun ρ => match ρ[i]? with
  | some (some (.cp (.ol dss))) => g (ρ.set i (some (.fr (.list (dss.map .list)))))
  | _ => g ρ
section
variable {X : Cx} {xc : Nat → Addr} {W : WX} {g gi gv : Rho → RE PyData} {gs : Rho → RS} {i : Nat} {st : Stmt} {es : List Expr}
theorem ds_frzO (h : DS1 X xc W st gs) : DS1 X xc W st (dFrzO i gs) := PS.imp h fun D σ H ⟨F0, H0, ρ, F, r, hg⟩ => by
  have hg : Good X.K xc W D F0 H0 F (match ρ[i]? with | some (some (.cp (.ol dss))) => gs (ρ.set i (some (.fr (.list (dss.map .list))))) | _ => gs ρ) := hg
  split at hg
  · rename_i dss q
    obtain ⟨F', sf, r2⟩ := r.frzO q
    exact ⟨F0, H0, _, F', r2, hg.mono sf⟩
  · exact ⟨F0, H0, ρ, F, r, hg⟩
/-- x[e].append(v) -/
def olApp (i : Nat) (dss : List (List PyData)) (gv : Rho → RE PyData) : Option Nat → Rho → RS
  | some k => stE gv fun v ρ => if (dss.getD k []).length < lim then .ok (.nx (ρ.set i (some (.cp (.ol (dss.set k (dss.getD k [] ++ [v]))))))) else .bad
  | none => fun _ => .bad
def olIx (n : Nat) : PyData → Option Nat
  | .int m => ixN n m
  | _ => none
def dOlApp (i : Nat) (gi gv : Rho → RE PyData) : Rho → RS := fun ρ => match ρ[i]? with
  | some (some (.cp (.ol dss))) => stE gi (fun d => olApp i dss gv (olIx dss.length d)) ρ
  | _ => .bad
theorem ixN_lt {n k : Nat} {m : Int} (h : ixN n m = some k) : k < n := by
  unfold ixN at h
  split at h
  · split at h
    · cases h; omega
    · cases h
  · split at h
    · cases h; omega
    · cases h
theorem ds_olApp (h : PS X st (tDrop (tBM X.K "list" rAppend (tOp (rIxL X.K) (tVar i) (eC X.K xc W kE gi)) (tCons (eC X.K xc W kF gv) tNil)))) : DS1 X xc W st (dOlApp i gi gv) := PS.imp h fun D σ H ⟨F0, H0, ρ, F, r, hg⟩ => by
  have hg : Good X.K xc W D F0 H0 F (match ρ[i]? with | some (some (.cp (.ol dss))) => stE gi (fun d => olApp i dss gv (olIx dss.length d)) ρ | _ => .bad) := hg
  split at hg
  · rename_i dss qi
    obtain ⟨a, cs0, ea, _, _⟩ := r.sl i _ qi
    refine ⟨.ref a, ea, eC.st r hg fun d v F2 H2 x r2 kk g2 => ?_⟩
    obtain ⟨a', cs, ea', hn, gc, _⟩ := r2.sl i _ qi
    rw [ea] at ea'; cases ea'
    obtain ⟨bs, ecs, nd, h1, h2, h3⟩ := id gc
    cases hx : olIx dss.length d with
    | none => rw [hx] at g2; exact absurd rfl g2.nb
    | some k =>
      rw [hx] at g2
      cases d with
      | int m =>
        have hx : ixN dss.length m = some k := hx
        have kl := ixN_lt hx
        have kb : k < bs.length := by rw [h2]; exact kl
        have eb : bs[k]? = some bs[k] := List.getElem?_eq_getElem kb
        have ed : dss[k]? = some dss[k] := List.getElem?_eq_getElem kl
        have eg : dss.getD k [] = dss[k] := by rw [List.getD_eq_getElem?_getD, ed]; rfl
        obtain ⟨vs, q1, q2⟩ := h3 k _ _ eb ed
        refine ⟨a, bs.map V.ref, m, .ref bs[k], rfl, kk.int, SqL.of h1, ?_, tyV_lst (SqL.of q1), ?_⟩
        · unfold atI
          rw [List.length_map, h2, hx]
          show (bs.map V.ref)[k]? = _
          rw [List.getElem?_map, eb]; rfl
        have g2 : Good X.K xc W D F0 H0 F2 (stE gv (fun v ρ => if (dss.getD k []).length < lim then .ok (.nx (ρ.set i (some (.cp (.ol (dss.set k (dss.getD k [] ++ [v]))))))) else .bad) ρ) := g2
        refine eC.st r2 g2 fun dv v3 F3 H3 x3 r3 k3 g3 => ?_
        by_cases hl : (dss.getD k []).length < lim
        · rw [if_pos hl] at g3
          have gc3 : CpOk X.K F3 H3 a cs (.ol dss) := gc.mv (by rw [h1]; exact x3.hh _ _ h1) (fun y hy => by
            obtain ⟨o, ho⟩ := gc.at y hy
            rw [ho]; exact x3.hh _ _ ho) x3.ff
          have q3 : H3 bs[k] = some (.lst vs) := x3.hh _ _ q1
          refine ⟨bs[k], vs, v3, rfl, rfl, q3, by rw [dpa_length q2, ← eg]; exact Nat.lt_of_lt_of_le hl lim_le, g3.nx _ rfl _ F3 _ (.refl _) ?_⟩
          have mb : bs[k] ∈ bs := List.getElem_mem kb
          have nab : a ≠ bs[k] := fun z => by
            rw [ecs] at nd
            exact (List.nodup_cons.1 nd).1 (z ▸ mb)
          refine r3.putC qi ea gc3 ⟨bs, ecs, nd, ?_, ?_, ?_⟩ (fun _ => trivial) (fun y hy => ?_)
          · rw [upd_ne nab]; exact x3.hh _ _ h1
          · rw [List.length_set, h2]
          · intro j b ds hb hd
            by_cases hj : j = k
            · subst hj
              rw [eb] at hb; cases hb
              rw [List.getElem?_set_self kl] at hd; cases hd
              refine ⟨vs ++ [v3], upd_same, ?_⟩
              rw [eg]
              exact dpa_append (dpa_mono x3.ff q2) (.cons k3 .nil)
            · rw [List.getElem?_set_ne (Ne.symm hj)] at hd
              obtain ⟨ws, p1, p2⟩ := h3 j b ds hb hd
              refine ⟨ws, ?_, dpa_mono x3.ff p2⟩
              have nb : b ≠ bs[k] := fun z => by
                rw [ecs] at nd
                have nd2 := (List.nodup_cons.1 nd).2
                exact hj ((List.getElem?_inj kb nd2).1 (by rw [hb, eb, z])).symm
              rw [upd_ne nb]; exact x3.hh _ _ p1
          · exact upd_ne fun z => hy (by rw [ecs, z]; exact List.mem_cons_of_mem _ mb)
        · rw [if_neg hl] at g3; exact absurd rfl g3.nb
      | _ => cases hx
  · exact absurd rfl hg.nb
/-- n new empty lists -/
def tEmp (n : Nat) : TA := fun σ H Q => ∀ (bs : List Addr) (H' : Hp), bs.length = n → bs.Nodup → (∀ b ∈ bs, H b = none ∧ H' b = some (.lst [])) → (∀ x, x ∉ bs → H' x = H x) → Q (bs.map V.ref) H'
theorem pa_emp0 : PA X [] (tEmp 0) := PA.imp pa_nil fun σ H Q h => h [] H rfl .nil (fun _ m => by cases m) fun _ _ => rfl
theorem pa_emp {n : Nat} {pos : Pos} (hr : PA X es (tEmp n)) (hs : starEach (.List [] pos :: es) X.env = (false, eval (.List [] pos) X.env) :: starEach es X.env := by rfl) : PA X (.List [] pos :: es) (tEmp (n + 1)) := PA.imp (pa_cons (pe_lst pa_nil) hr hs) fun σ H Q h => by
  refine ⟨Nat.zero_le _, fun p hp bs H' hl nd hb ho => ?_⟩
  have pn : p ∉ bs := fun m => by
    have := (hb p m).1
    rw [upd_same] at this; cases this
  have hpp : H' p = some (.lst []) := by rw [ho p pn, upd_same]
  refine h (p :: bs) H' (by rw [List.length_cons, hl]) (List.nodup_cons.2 ⟨pn, nd⟩) (fun b m => ?_) fun x hx => ?_
  · rcases List.mem_cons.1 m with rfl | m
    · exact ⟨hp, hpp⟩
    · have nb : b ≠ p := fun z => pn (z ▸ m)
      have := hb b m
      rw [upd_ne nb] at this
      exact this
  · rw [ho x fun m => hx (List.mem_cons_of_mem _ m), upd_ne fun (z : x = p) => hx (by rw [z]; exact List.mem_cons_self)]
def dNewOl (i n : Nat) : Rho → RS := fun ρ => if n ≤ lim then .ok (.nx (ρ.set i (some (.cp (.ol (List.replicate n [])))))) else .bad
theorem ds_newOl {n : Nat} (h : PS X st (tAsg (tLst (tEmp n)) (gName i))) : DS1 X xc W st (dNewOl i n) := PS.imp h fun D σ H ⟨F0, H0, ρ, F, r, hg⟩ => by
  have hg : Good X.K xc W D F0 H0 F (if n ≤ lim then .ok (.nx (ρ.set i (some (.cp (.ol (List.replicate n [])))))) else .bad) := hg
  by_cases hn : n ≤ lim
  · rw [if_pos hn] at hg
    intro bs H' hl nd hb ho
    refine ⟨by rw [List.length_map, hl]; exact le_lim hn, fun p hp => ?_⟩
    have pn : p ∉ bs := fun m => by rw [(hb p m).2] at hp; cases hp
    have hpH : H p = none := by rw [← ho p pn]; exact hp
    have sm : Same H (upd H' p (.lst (bs.map V.ref))) := fun x o q => by
      have n1 : x ≠ p := fun z => by rw [z, hpH] at q; cases q
      have n2 : x ∉ bs := fun m => by rw [(hb x m).1] at q; cases q
      rw [upd_ne n1, ho x n2]; exact q
    have fr : ∀ y ∈ p :: bs, H y = none := fun y m => by
      rcases List.mem_cons.1 m with rfl | m
      · exact hpH
      · exact (hb y m).1
    exact hg.nx _ rfl _ F _ (.refl _) (r.setC (cs := p :: bs) ⟨.refl _, sm, r.same.trans sm, fun _ _ q => .inl q⟩ (fun y m => ⟨fr y m, r.same.free (fr y m)⟩) ⟨bs, rfl, List.nodup_cons.2 ⟨pn, nd⟩, upd_same, by rw [hl, List.length_replicate], fun j b ds h1 h2 => by
      have m := List.mem_of_getElem? h1
      have e : ds = [] := List.eq_of_mem_replicate (List.mem_of_getElem? h2)
      subst e
      exact ⟨[], by rw [upd_ne fun (z : b = p) => pn (by rw [← z]; exact m)]; exact (hb b m).2, .nil⟩⟩ trivial)
  · rw [if_neg hn] at hg; exact absurd rfl hg.nb
end
end VS
end
section
set_option Elab.async false
set_option linter.all false
set_option maxRecDepth 100000
set_option autoImplicit false
namespace VS
open PySem PySem.Spec PyProof.Rows L2
/-! ### instances of the text's class: read -/
structure YT (K : PySem.W.Frag) (mg : Str → Option Value) (C : Addr) : Prop where
  yc : YC K C
  cl : Cls K C
  nS : NoAttr K C "steps"
  nK : NoAttr K C "kept"
  g : mg "Yard" = some (.ref C)
theorem YC.uq {K : PySem.W.Frag} {C D : Addr} (h : YC K C) (h' : YC K D) : C = D := by
  have e : some (some (Value.ref C)) = some (some (Value.ref D)) := h.symm.trans h'
  cases e; rfl
def getY : Option (Option SV) → Option (List PyData × Int)
  | some (some (.cp (.yd _ st k))) => some (st, k)
  | some (some (.pr (.sy st k))) => some (st, k)
  | _ => none
theorem yfs_steps (l : Addr) (k : Int) : (yfs l k).lookup ("steps" : Str) = some (.ref l) := by simp [yfs, List.lookup]
theorem yfs_kept (l : Addr) (k : Int) : (yfs l k).lookup ("kept" : Str) = some (.int k) := by
  have e : (("kept" : Str) == ("steps" : Str)) = false := by decide +kernel
  simp [yfs, List.lookup, e]
theorem yfs_no (l : Addr) (k : Int) {m : Str} (h1 : (m == ("steps" : Str)) = false := by decide +kernel) (h2 : (m == ("kept" : Str)) = false := by decide +kernel) : (yfs l k).lookup m = none := by
  simp [yfs, List.lookup, h1, h2]
section
variable {K : PySem.W.Frag} {F0 H0 F H : Hp} {ρ : Rho} {σ : L2.St}
theorem SRel.yard {i : Nat} {st : List PyData} {k : Int} (r : SRel K F0 H0 ρ σ F H) (h : getY ρ[i]? = some (st, k)) : ∃ a C dx l vs, σ[i]? = some (some (.ref a)) ∧ YC K C ∧ H a = some (.ins C dx (yfs l k)) ∧ SqL K H l vs ∧ DqAll K F vs st := by
  unfold getY at h
  split at h
  · rename_i p st' k' q
    cases h
    obtain ⟨a, cs, e, _, ⟨C, dx, l, vs, hC, _, h1, h2, h3, h4⟩, _⟩ := r.sl i _ q
    exact ⟨a, C, dx, l, vs, e, hC, h1, SqL.of h3, h4⟩
  · rename_i st' k' q
    cases h
    obtain ⟨v, e, a, C, dx, l, vs, rfl, hC, h1, h2, h3⟩ := r.sl i _ q
    exact ⟨a, C, dx, l, vs, e, hC, r.fz.hh _ _ h1, r.fz.hh.seq h2, h3⟩
  · cases h
end
def dYSt (i : Nat) : Rho → RE PyData := fun ρ => match getY ρ[i]? with
  | some (st, _) => .ok (.list st)
  | none => .bad
def dYKept (i : Nat) : Rho → RE PyData := fun ρ => match getY ρ[i]? with
  | some (_, k) => .ok (.int k)
  | none => .bad
section
variable {X : Cx} {xc : Nat → Addr} {W : WX} {e : Expr} {C : Addr} {i : Nat} {pos : Pos} {st : Stmt} {g : Rho → RE PyData}
theorem de_ySt (T : YT X.K X.mg C) (h : PE X e (tVar i)) (hb : attributeBase e "steps" X.env (eval e X.env) = eval e X.env := by rfl) : DE X xc W kE (.Attribute e "steps" pos) (dYSt i) := PE.imp (pe_fld h hb) fun σ H Q ⟨F0, H0, ρ, F, r, hbd, hq, hx⟩ => by
  unfold dYSt at hbd hq
  cases q : getY ρ[i]? with
  | none => rw [q] at hbd; exact absurd rfl hbd
  | some p =>
    obtain ⟨st, k⟩ := p
    rw [q] at hq
    obtain ⟨a, D, dx, l, vs, ea, hD, h1, h2, h3⟩ := r.yard q
    have := T.yc.uq hD
    subst this
    exact ⟨.ref a, ea, a, C, dx, _, .ref l, rfl, h1, T.cl, T.nS, yfs_steps l k, hq _ rfl _ F H (.refl r.same) (.inr ⟨l, vs, st, rfl, rfl, h2, h3⟩)⟩
theorem de_yK (T : YT X.K X.mg C) (h : PE X e (tVar i)) (hb : attributeBase e "kept" X.env (eval e X.env) = eval e X.env := by rfl) : DE X xc W kF (.Attribute e "kept" pos) (dYKept i) := PE.imp (pe_fld h hb) fun σ H Q ⟨F0, H0, ρ, F, r, hbd, hq, hx⟩ => by
  unfold dYKept at hbd hq
  cases q : getY ρ[i]? with
  | none => rw [q] at hbd; exact absurd rfl hbd
  | some p =>
    obtain ⟨st, k⟩ := p
    rw [q] at hq
    obtain ⟨a, D, dx, l, vs, ea, hD, h1, h2, h3⟩ := r.yard q
    have := T.yc.uq hD
    subst this
    exact ⟨.ref a, ea, a, C, dx, _, .int k, rfl, h1, T.cl, T.nK, yfs_kept l k, hq _ rfl _ F H (.refl r.same) (.int k)⟩

/-! ### its steps changed -/
def dYApp (i : Nat) (g : Rho → RE PyData) : Rho → RS := fun ρ => match ρ[i]? with
  | some (some (.cp (.yd p st k))) => stE g (fun d ρ => if st.length < lim then .ok (.nx (ρ.set i (some (.cp (.yd p (st ++ [d]) k))))) else .bad) ρ
  | _ => .bad
def dYPop (i : Nat) : Rho → RS := fun ρ => match ρ[i]? with
  | some (some (.cp (.yd p st k))) => if st.isEmpty = true then .bad else .ok (.nx (ρ.set i (some (.cp (.yd p st.dropLast k)))))
  | _ => .bad
theorem dpa_dropLast {K : PySem.W.Frag} {H : Hp} {vs : List V} {ds : List PyData} (h : DqAll K H vs ds) : DqAll K H vs.dropLast ds.dropLast := by
  rw [List.dropLast_eq_take, List.dropLast_eq_take, dpa_length h]
  exact dpa_take _ h
theorem SRel.putY {K : PySem.W.Frag} {F0 H0 F H : Hp} {ρ : Rho} {σ : L2.St} {i : Nat} {p : Bool} {st st' : List PyData} {k : Int} {a l : Addr} {C dx : Addr} {vs vs' : List V} (r : SRel K F0 H0 ρ σ F H) (hi : ρ[i]? = some (some (.cp (.yd p st k)))) (hs : σ[i]? = some (some (.ref a)))
    (g : CpOk K F H a [l] (.yd p st k)) (hd : DqAll K F vs' st') : SRel K F0 H0 (ρ.set i (some (.cp (.yd p st' k)))) σ F (upd H l (.lst vs')) := by
  obtain ⟨C, dx, l', us, hC, el, h1, h2, h3, h4⟩ := id g
  cases el
  have nal : a ≠ l := fun z => by rw [z, h3] at h1; cases h1
  refine r.putC hi hs g ⟨C, dx, l, vs', hC, rfl, by rw [upd_ne nal]; exact h1, h2, upd_same, hd⟩ (fun z => z.set) fun y hy => upd_ne fun z => hy (by rw [z]; exact List.mem_singleton.mpr rfl)
theorem ds_yApp (T : YT X.K X.mg C) (h : PS X st (tDrop (tBM X.K "list" rAppend (tFld X.K (tVar i) "steps") (tCons (eC X.K xc W kF g) tNil)))) : DS1 X xc W st (dYApp i g) := PS.imp h fun D σ H ⟨F0, H0, ρ, F, r, hg⟩ => by
  have hg : Good X.K xc W D F0 H0 F (match ρ[i]? with | some (some (.cp (.yd p st k))) => stE g (fun d ρ => if st.length < lim then .ok (.nx (ρ.set i (some (.cp (.yd p (st ++ [d]) k))))) else .bad) ρ | _ => .bad) := hg
  split at hg
  · rename_i p ss k q
    obtain ⟨a, cs, ea, _, gc, _⟩ := r.sl i _ q
    obtain ⟨D', dx, l, vs, hD, ecs, h1, h2, h3, h4⟩ := id gc
    have := T.yc.uq hD
    subst this
    refine ⟨.ref a, ea, a, C, dx, _, .ref l, rfl, h1, T.cl, T.nS, yfs_steps l k, tyV_lst (SqL.of h3), eC.st r hg fun d v F2 H2 x r2 kk g2 => ?_⟩
    by_cases hl : ss.length < lim
    · rw [if_pos hl] at g2
      obtain ⟨a', cs', ea', _, gc2, _⟩ := r2.sl i _ q
      rw [ea] at ea'; cases ea'
      have ee := gc.uq gc2 (by rw [h1]; exact x.hh _ _ h1)
      subst ecs
      subst ee
      exact ⟨l, vs, v, rfl, rfl, x.hh _ _ h3, by rw [dpa_length h4]; exact Nat.lt_of_lt_of_le hl lim_le, g2.nx _ rfl _ F2 _ (.refl _) (r2.putY (vs := vs) (C := C) (dx := dx) q ea gc2 (dpa_append (dpa_mono x.ff h4) (.cons kk .nil)))⟩
    · rw [if_neg hl] at g2; exact absurd rfl g2.nb
  · exact absurd rfl hg.nb
theorem ds_yPop (T : YT X.K X.mg C) (h : PS X st (tDrop (tBM0 X.K "list" rPop (tFld X.K (tVar i) "steps")))) : DS1 X xc W st (dYPop i) := PS.imp h fun D σ H ⟨F0, H0, ρ, F, r, hg⟩ => by
  have hg : Good X.K xc W D F0 H0 F (match ρ[i]? with | some (some (.cp (.yd p st k))) => if st.isEmpty = true then .bad else .ok (.nx (ρ.set i (some (.cp (.yd p st.dropLast k))))) | _ => .bad) := hg
  split at hg
  · rename_i p ss k q
    obtain ⟨a, cs, ea, _, gc, _⟩ := r.sl i _ q
    obtain ⟨D', dx, l, vs, hD, ecs, h1, h2, h3, h4⟩ := id gc
    have := T.yc.uq hD
    subst this
    subst ecs
    by_cases he : ss.isEmpty = true
    · rw [if_pos he] at hg; exact absurd rfl hg.nb
    · rw [if_neg he] at hg
      have hl : vs.length = ss.length := dpa_length h4
      have hp : 0 < ss.length := by
        cases ss with
        | nil => exact absurd rfl he
        | cons _ _ => simp
      exact ⟨.ref a, ea, a, C, dx, _, .ref l, rfl, h1, T.cl, T.nS, yfs_steps l k, tyV_lst (SqL.of h3), l, vs, vs[vs.length - 1]'(by omega), rfl, rfl, h3, List.getElem?_eq_getElem (by omega), hg.nx _ rfl _ F _ (.refl _) (r.putY (vs := vs) (C := C) (dx := dx) q ea gc (dpa_dropLast h4))⟩
  · exact absurd rfl hg.nb
end
end VS
end
section
set_option Elab.async false
set_option linter.all false
set_option maxRecDepth 100000
set_option autoImplicit false
namespace VS
open PySem PySem.Spec PyProof.Rows L2
/-! ### defs that are handed an instance -/
def rem (H : Hp) (l : Addr) : Hp := fun x => if x = l then none else H x
theorem rem_ne {H : Hp} {l x : Addr} (h : x ≠ l) : rem H l x = H x := if_neg h
theorem rem_same {H : Hp} {l : Addr} : rem H l l = none := if_pos rfl
theorem same_rem {H : Hp} {l : Addr} : Same (rem H l) H := fun x o q => by
  by_cases e : x = l
  · rw [e, rem_same] at q; cases q
  · rw [rem_ne e] at q; exact q
def YOk (K : PySem.W.Frag) (F H : Hp) (a l : Addr) (k : Int) (st : List PyData) : Prop := ∃ C dx vs, YC K C ∧ F a = some (.ins C dx (yfs l k)) ∧ F l = none ∧ H l = some (.lst vs) ∧ DqAll K F vs st
structure YStep (K : PySem.W.Frag) (F H F2 H2 : Hp) (a l : Addr) (k : Int) (st : List PyData) : Prop where
  fz : Fz F (rem H l) F2 H2
  ok : YOk K F2 H2 a l k st
abbrev RM := R (Exc × List PyData) (PyData × List PyData)
abbrev FM := (List PyData × Int) → List PyData → RM
abbrev FR := (List PyData × Int) → List PyData → RE PyData
/-- the promise of a def that may change the instance -/
def spM (K : PySem.W.Frag) (xc : Nat → Addr) (ks : List Bool) (f : FM) : Sp := fun vs H Q E => ∃ (F : Hp) (a l : Addr) (vs' : List V) (st : List PyData) (k : Int) (ds : List PyData), vs = .ref a :: vs' ∧ Same F H ∧ YOk K F H a l k st ∧ (∀ x C dx fs, F x = some (.ins C dx fs) → x = a) ∧ AOk K F H ks vs' ds ∧ f (st, k) ds ≠ .bad ∧
  (∀ d st', f (st, k) ds = .ok (d, st') → ∀ v F2 H2, YStep K F H F2 H2 a l k st' → Dq K F2 v d → Q v H2) ∧
  (∀ x st', f (st, k) ds = .ex (x, st') → ∀ cls dd F2 H2, YStep K F H F2 H2 a l k st' → XOk K xc F2 H2 x cls dd → E cls dd H2)
def YRd (K : PySem.W.Frag) (F H : Hp) (a : Addr) (st : List PyData) (k : Int) : Prop := ∃ C dx l vs, YC K C ∧ H a = some (.ins C dx (yfs l k)) ∧ SqL K H l vs ∧ DqAll K F vs st
/-- of one that only reads it -/
def spR (K : PySem.W.Frag) (xc : Nat → Addr) (ks : List Bool) (f : FR) : Sp := fun vs H Q E => ∃ (F : Hp) (a : Addr) (vs' : List V) (st : List PyData) (k : Int) (ds : List PyData), vs = .ref a :: vs' ∧ Same F H ∧ YRd K F H a st k ∧ AOk K F H ks vs' ds ∧ f (st, k) ds ≠ .bad ∧
  (∀ d, f (st, k) ds = .ok d → ∀ v F2 H2, Fz F H F2 H2 → Dq K F2 v d → Q v H2) ∧
  (∀ x, f (st, k) ds = .ex x → ∀ cls dd F2 H2, Fz F H F2 H2 → XOk K xc F2 H2 x cls dd → E cls dd H2)
def stOf : Option (Option SV) → Option (List PyData)
  | some (some (.cp (.yd true st _))) => some st
  | _ => none
def fnM (n : Nat) (ks : List Bool) (g : Rho → RS) : FM := fun s ds => match g (some (.cp (.yd true s.1 s.2)) :: (rho0 ks ds ++ List.replicate (n - (ks.length + 1)) none)) with
  | .ok (.ry d ρ') => (match stOf ρ'[0]? with
    | some st => .ok (d, st)
    | none => .bad)
  | .ok (.nx ρ') => (match stOf ρ'[0]? with
    | some st => .ok (.none, st)
    | none => .bad)
  | .ex (x, ρ') => (match stOf ρ'[0]? with
    | some st => .ex (x, st)
    | none => .bad)
  | _ => .bad
def fnR (n : Nat) (ks : List Bool) (g : Rho → RS) : FR := fun s ds => match g (some (.pr (.sy s.1 s.2)) :: (rho0 ks ds ++ List.replicate (n - (ks.length + 1)) none)) with
  | .ok (.rt d) => .ok d
  | .ok (.ry d _) => .ok d
  | .ok (.nx _) => .ok .none
  | .ex (x, _) => .ex x
  | .bad => .bad
theorem rho0_fr {K : PySem.W.Frag} {F H : Hp} (m : Nat) : ∀ {ks : List Bool} {vs : List V} {ds : List PyData}, (∀ b ∈ ks, b = true) → AOk K F H ks vs ds → ∀ (i : Nat) (sv : SV), (rho0 ks ds ++ List.replicate m none)[i]? = some (some sv) → ∃ d v, sv = .fr d ∧ (vs.map some ++ List.replicate m none)[i]? = some (some v) ∧ Dq K F v d
  | [], _, _, _, ⟨h1, h2⟩, i, sv, e => by
    rw [h2] at e
    have e' : (List.replicate m (none : Option SV))[i]? = some (some sv) := e
    rw [List.getElem?_replicate] at e'
    split at e' <;> cases e'
  | b :: ks, _, _, hk, ⟨v, vs', d, ds', h1, h2, h3, h4⟩, 0, sv, e => by
    rw [h1]
    rw [h2] at e
    have hb := hk b (by simp)
    subst hb
    cases e
    rw [if_pos rfl] at h3
    exact ⟨d, v, rfl, rfl, h3⟩
  | b :: ks, _, _, hk, ⟨v, vs', d, ds', h1, h2, h3, h4⟩, i + 1, sv, e => by
    rw [h1]
    rw [h2] at e
    exact rho0_fr m (fun c hc => hk c (by simp [hc])) h4 i sv e
section
variable {P : Program} {w : World} {K : PySem.W.Frag} {mg : Str → Option Value} {base : Heap} {xc : Nat → Addr} {x qual : Str} {st : Stmt} {f : Addr} {fd : FuncData} {N ps : List Str} {m n : Nat} {ks : List Bool} {g : Rho → RS}
theorem exitY {K : PySem.W.Frag} {Ff H F' H' : Hp} {ρ' : Rho} {σ' : L2.St} {a l : Addr} {k : Int} {st st' : List PyData} (r : SRel K Ff (rem H l) ρ' σ' F' H') (q : stOf ρ'[0]? = some st') (y : YOk K Ff H a l k st) (u : ∀ x C dx fs, Ff x = some (.ins C dx fs) → x = a) : YStep K Ff H F' H' a l k st' := by
  unfold stOf at q
  split at q
  · rename_i st0 k0 e
    cases q
    obtain ⟨a', cs, _, hn, ⟨C', dx', l', vs', hC', ecs, h1, h2, h3, h4⟩, ⟨C1, dx1, fs1, q1⟩, _⟩ := r.sl 0 _ e
    have := u _ _ _ _ q1
    subst this
    obtain ⟨C, dx, vs, hC, hF, _⟩ := y
    have e2 := r.fz.ff _ _ hF
    rw [e2] at h2
    unfold yfs at h2
    cases h2
    exact ⟨r.fz, _, _, vs', hC, e2, (hn l (by rw [ecs]; simp)).2, h3, h4⟩
  · cases q
theorem fn_okM (F : Fun K x qual st f fd) (S : FnScope N ps (defScope st)) (hk : ks.length + 1 = ps.length) (hka : ∀ b ∈ ks, b = true) (hn : N.length = n)
    (body : ∀ (cdv : Value) (A : Around) (outer : List Env) (s : Shared) (H : Hp) (E : XK), Room m (A.deeper (envOfC qual (defScope st) s.heap.objs.size f cdv)) →
      DS (cxOf (L2.CX P w) P w K mg base N qual (defScope st) f cdv A outer s H E) xc (fun cls d _ H => E cls d H) (defBody st) g) :
    FnOk P w K mg base (L2.CX P w) (m + 1) f fd ps (spM K xc ks (fnM n ks g)) := by
  refine F.okX S (fun vs H Q E h => ?_) (fun cdv A outer s H vs Q E hr h => ?_)
  · obtain ⟨F, a, l, vs', st, k, ds, rfl, _, _, _, ha, _⟩ := h
    rw [List.length_cons, ha.length, hk]
  · obtain ⟨Ff, a, l, vs', ss, k, ds, rfl, sm, y, un, ha, hb, hq, hx⟩ := h
    subst hn
    obtain ⟨C, dx, us, hC, hF, hFl, hl, hd⟩ := id y
    have hw : ∀ r, g (some (.cp (.yd true ss k)) :: (rho0 ks ds ++ List.replicate (N.length - (ks.length + 1)) none)) = r → fnM N.length ks g (ss, k) ds = (match r with
      | .ok (.ry d ρ') => (match stOf ρ'[0]? with | some st => .ok (d, st) | none => .bad)
      | .ok (.nx ρ') => (match stOf ρ'[0]? with | some st => .ok (.none, st) | none => .bad)
      | .ex (x, ρ') => (match stOf ρ'[0]? with | some st => .ex (x, st) | none => .bad)
      | _ => .bad) := fun r e => by unfold fnM; rw [e]
    have hN : N.length - (PyData.none :: ds).length = N.length - (ks.length + 1) := by rw [List.length_cons, ha.length']
    have sl : ∀ (i : Nat) (sv : SV), (some (.cp (.yd true ss k)) :: (rho0 ks ds ++ List.replicate (N.length - (ks.length + 1)) none))[i]? = some (some sv) → SlotOk K Ff (rem H l) Ff H sv ((some (V.ref a) :: (vs'.map some ++ List.replicate (N.length - (ks.length + 1)) none))[i]?) ∧ (mutB sv = true → i = 0 ∧ ∃ t, sv = .cp t) := by
      intro i sv e
      cases i with
      | zero =>
        cases e
        exact ⟨⟨a, [l], rfl, fun x hx => by rw [List.mem_singleton.mp hx]; exact ⟨rem_same, hFl⟩, ⟨C, dx, l, us, hC, rfl, sm _ _ hF, hF, hl, hd⟩, ⟨C, dx, _, hF⟩, un⟩, fun _ => ⟨rfl, _, rfl⟩⟩
      | succ i =>
        obtain ⟨d, v, rfl, ev, dv⟩ := rho0_fr (N.length - (ks.length + 1)) hka ha i sv e
        exact ⟨⟨v, ev, dv⟩, fun z => by cases z⟩
    refine ⟨_, body cdv A outer s H E hr, Ff, rem H l, some (.cp (.yd true ss k)) :: (rho0 ks ds ++ List.replicate (N.length - (ks.length + 1)) none), Ff, ⟨⟨.refl _, same_rem, sm, fun _ _ h => .inl h⟩, ?_, fun i sv e => ?_, fun i j es fs _ e _ => ?_, ⟨fun i j t es a b cs _ e => ?_, fun i j t es a b cs _ e => ?_, fun i j t u a b cs es nij e e2 => ?_⟩⟩,
      ⟨fun z => hb ?_, fun ρ' e σ' F' H' _ r' => ?_, fun d e v F' H' fz dd => ?_, fun y' ρ' e cls dd σ' F' H' _ r' xo => ?_, fun d ρ' e v σ' F' H' _ r' dd => ?_⟩⟩
    · show (_ :: (rho0 ks ds ++ _)).length = (((V.ref a :: vs').map some) ++ List.replicate (N.length - (V.ref a :: vs').length) none).length
      rw [List.length_cons, List.length_append, List.length_append, rho0_len ha, List.length_map, List.length_cons, List.length_replicate, List.length_replicate, ha.length]
      omega
    · have q := (sl i sv e).1
      show SlotOk K Ff (rem H l) Ff H sv ((((V.ref a :: vs').map some) ++ List.replicate (N.length - (V.ref a :: vs').length) none)[i]?)
      rw [List.length_cons, ha.length]
      exact q
    · obtain ⟨_, t, z⟩ := (sl i _ e).2 rfl; cases z
    · obtain ⟨_, t, z⟩ := (sl j _ e).2 rfl; cases z
    · obtain ⟨_, t, z⟩ := (sl j _ e).2 rfl; cases z
    · exact absurd (((sl i _ e).2 rfl).1.trans ((sl j _ e2).2 rfl).1.symm) nij
    · rw [hw _ z]
    · have e' := hw _ e
      dsimp only at e'
      cases q : stOf ρ'[0]? with
      | none => rw [q] at e'; exact absurd e' hb
      | some st' =>
        rw [q] at e'
        exact hq _ _ e' .non F' H' (exitY r' q y un) .non
    · exact absurd (hw _ e) hb
    · have e' := hw _ e
      dsimp only at e'
      cases q : stOf ρ'[0]? with
      | none => rw [q] at e'; exact absurd e' hb
      | some st' =>
        rw [q] at e'
        exact hx _ _ e' cls dd F' H' (exitY r' q y un) xo
    · have e' := hw _ e
      dsimp only at e'
      cases q : stOf ρ'[0]? with
      | none => rw [q] at e'; exact absurd e' hb
      | some st' =>
        rw [q] at e'
        exact hq _ _ e' v F' H' (exitY r' q y un) dd
theorem fn_okR (F : Fun K x qual st f fd) (S : FnScope N ps (defScope st)) (hk : ks.length + 1 = ps.length) (hn : N.length = n)
    (body : ∀ (cdv : Value) (A : Around) (outer : List Env) (s : Shared) (H : Hp) (E : XK), Room m (A.deeper (envOfC qual (defScope st) s.heap.objs.size f cdv)) →
      DS (cxOf (L2.CX P w) P w K mg base N qual (defScope st) f cdv A outer s H E) xc (fun cls d _ H => E cls d H) (defBody st) g) :
    FnOk P w K mg base (L2.CX P w) (m + 1) f fd ps (spR K xc ks (fnR n ks g)) := by
  refine F.okX S (fun vs H Q E h => ?_) (fun cdv A outer s H vs Q E hr h => ?_)
  · obtain ⟨F, a, vs', st, k, ds, rfl, _, _, ha, _⟩ := h
    rw [List.length_cons, ha.length, hk]
  · obtain ⟨Ff, a, vs', ss, k, ds, rfl, sm, y, ha, hb, hq, hx⟩ := h
    subst hn
    obtain ⟨C, dx, l, us, hC, hA, hl, hd⟩ := id y
    have hw : ∀ r, g (some (.pr (.sy ss k)) :: (rho0 ks ds ++ List.replicate (N.length - (ks.length + 1)) none)) = r → fnR N.length ks g (ss, k) ds = (match r with
      | .ok (.rt d) => .ok d
      | .ok (.ry d _) => .ok d
      | .ok (.nx _) => .ok .none
      | .ex (x, _) => .ex x
      | .bad => .bad) := fun r e => by unfold fnR; rw [e]
    have sl : ∀ (i : Nat) (sv : SV), (some (.pr (.sy ss k)) :: (rho0 ks ds ++ List.replicate (N.length - (ks.length + 1)) none))[i]? = some (some sv) → SlotOk K Ff H Ff H sv ((some (V.ref a) :: (vs'.map some ++ List.replicate (N.length - (ks.length + 1)) none))[i]?) ∧ mutB sv = false := by
      intro i sv e
      cases i with
      | zero =>
        cases e
        exact ⟨⟨_, rfl, a, C, dx, l, us, rfl, hC, hA, hl, hd⟩, rfl⟩
      | succ i => exact rho0_ok sm (N.length - (ks.length + 1)) ha i sv e
    refine ⟨_, body cdv A outer s H E hr, Ff, H, some (.pr (.sy ss k)) :: (rho0 ks ds ++ List.replicate (N.length - (ks.length + 1)) none), Ff, ⟨.refl sm, ?_, fun i sv e => ?_, fun i j es fs _ e _ => ?_, ⟨fun i j t es a b cs e => ?_, fun i j t es a b cs e => ?_, fun i j t u a b cs es nij e e2 => ?_⟩⟩,
      ⟨fun z => hb ?_, fun ρ' e σ' F' H' _ r' => hq .none ?_ .non F' H' r'.fz .non, fun d e v F' H' fz dd => hq d ?_ v F' H' fz dd, fun y' ρ' e cls dd σ' F' H' _ r' xo => hx y' ?_ cls dd F' H' r'.fz xo, fun d ρ' e v σ' F' H' _ r' dd => hq d ?_ v F' H' r'.fz dd⟩⟩
    · show (_ :: (rho0 ks ds ++ _)).length = (((V.ref a :: vs').map some) ++ List.replicate (N.length - (V.ref a :: vs').length) none).length
      rw [List.length_cons, List.length_append, List.length_append, rho0_len ha, List.length_map, List.length_cons, List.length_replicate, List.length_replicate, ha.length]
      omega
    · have q := (sl i sv e).1
      show SlotOk K Ff H Ff H sv ((((V.ref a :: vs').map some) ++ List.replicate (N.length - (V.ref a :: vs').length) none)[i]?)
      rw [List.length_cons, ha.length]
      exact q
    · have z := (sl i _ e).2; cases z
    · have z := (sl i _ e).2; cases z
    · have z := (sl i _ e).2; cases z
    · have z := (sl i _ e).2; cases z
    · rw [hw _ z]
    · rw [hw _ e]
    · rw [hw _ e]
    · rw [hw _ e]
    · rw [hw _ e]
end
end VS
end
section
set_option Elab.async false
set_option linter.all false
set_option maxRecDepth 100000
set_option autoImplicit false
namespace VS
open PySem PySem.Spec PyProof.Rows L2
/-! ### what is frozen, without the other instances -/
def isIns : HO → Bool
  | .ins _ _ _ => true
  | _ => false
def stripI (a : Addr) (F : Hp) : Hp := fun x => if x = a then F x else (F x).bind fun o => if isIns o = true then none else some o
theorem strip_some {F : Hp} {a x : Addr} {o : HO} (h : F x = some o) (ho : isIns o = false) : stripI a F x = some o := by
  unfold stripI
  by_cases e : x = a
  · rw [if_pos e]; exact h
  · rw [if_neg e, h]
    show (if isIns o = true then none else some o) = _
    rw [ho]; rfl
theorem strip_at {F : Hp} {a : Addr} : stripI a F a = F a := if_pos rfl
theorem strip_le {F : Hp} {a : Addr} : Same (stripI a F) F := fun x o q => by
  unfold stripI at q
  by_cases e : x = a
  · rw [if_pos e] at q; exact q
  · rw [if_neg e] at q
    cases hF : F x with
    | none => rw [hF] at q; cases q
    | some u =>
      rw [hF] at q
      have q : (if isIns u = true then none else some u) = some o := q
      split at q
      · cases q
      · exact q
theorem strip_un {F : Hp} {a x C dx : Addr} {fs : List (Str × V)} (h : stripI a F x = some (.ins C dx fs)) : x = a := by
  unfold stripI at h
  by_cases e : x = a
  · exact e
  · rw [if_neg e] at h
    cases hF : F x with
    | none => rw [hF] at h; cases h
    | some u =>
      rw [hF] at h
      have q : (if isIns u = true then none else some u) = some (.ins C dx fs) := h
      split at q
      · cases q
      · rename_i hu
        cases q
        exact absurd rfl hu
theorem sql_strip {K : PySem.W.Frag} {F : Hp} {a b : Addr} {xs : List V} (h : SqL K F b xs) : SqL K (stripI a F) b xs := by
  rcases h with (h | ⟨o, h⟩) | h
  · exact .inl (.inl (strip_some h rfl))
  · exact .inl (.inr ⟨o, strip_some h rfl⟩)
  · exact .inr h
theorem sqn_strip {F : Hp} {a b : Addr} {xs : List V} (h : SqN F b xs) : SqN (stripI a F) b xs := let ⟨o, q, d⟩ := h; ⟨o, strip_some q rfl, d⟩
mutual
theorem dq_strip {K : PySem.W.Frag} {F : Hp} {a : Addr} : ∀ {v : V} {d : PyData}, Dq K F v d → Dq K (stripI a F) v d
  | _, _, .non => .non
  | _, _, .bl b => .bl b
  | _, _, .int i => .int i
  | _, _, .str x => .str x
  | _, _, .lst h t => .lst (sql_strip h) (dqa_strip t)
  | _, _, .tup h t => .tup (sqn_strip h) (dqa_strip t)
theorem dqa_strip {K : PySem.W.Frag} {F : Hp} {a : Addr} : ∀ {vs : List V} {ds : List PyData}, DqAll K F vs ds → DqAll K (stripI a F) vs ds
  | _, _, .nil => .nil
  | _, _, .cons h t => .cons (dq_strip h) (dqa_strip t)
end
theorem aok_strip {K : PySem.W.Frag} {F H : Hp} {a : Addr} : ∀ {ks : List Bool} {vs : List V} {ds : List PyData}, (∀ b ∈ ks, b = true) → AOk K F H ks vs ds → AOk K (stripI a F) H ks vs ds
  | [], _, _, _, h => h
  | b :: ks, _, _, hk, ⟨v, vs', d, ds', h1, h2, h3, h4⟩ => ⟨v, vs', d, ds', h1, h2, by
      have hb := hk b (by simp)
      subst hb
      rw [if_pos rfl] at h3 ⊢
      exact dq_strip h3, aok_strip (fun c hc => hk c (by simp [hc])) h4⟩
/-- behind a call that changes the instance of slot i -/
theorem SRel.callM {K : PySem.W.Frag} {F0 H0 F H : Hp} {ρ : Rho} {σ : L2.St} {i : Nat} {p : Bool} {st : List PyData} {k : Int} (r : SRel K F0 H0 ρ σ F H) (hi : ρ[i]? = some (some (.cp (.yd p st k)))) :
    ∃ a l C dx, σ[i]? = some (some (.ref a)) ∧ YC K C ∧ H a = some (.ins C dx (yfs l k)) ∧ YOk K (stripI a F) H a l k st ∧ ∀ F2 H2 st', YStep K (stripI a F) H F2 H2 a l k st' → ∃ F3, Same F F3 ∧ Same F2 F3 ∧ SRel K F0 H0 (ρ.set i (some (.cp (.yd p st' k)))) σ F3 H2 := by
  obtain ⟨a, cs, ea, hn, gc, ga⟩ := r.sl i _ hi
  obtain ⟨C, dx, l, vs, hC, ecs, h1, h2, h3, h4⟩ := id gc
  subst ecs
  have hFl := (hn l (by simp)).2
  have hFs : stripI a F l = none := strip_le.free hFl
  refine ⟨a, l, C, dx, ea, hC, h1, ⟨C, dx, vs, hC, strip_at.trans h2, hFs, h3, dqa_strip h4⟩, fun F2 H2 st' ⟨fz, C', dx', us, hC', g1, g2, g3, g4⟩ => ?_⟩
  have nal : a ≠ l := fun z => by rw [z, h3] at h1; cases h1
  have e2 := fz.ff _ _ (strip_at.trans h2)
  rw [e2] at g1
  unfold yfs at g1
  cases g1
  let F3 : Hp := fun x => match F x with
    | some (.ins C dx fs) => some (.ins C dx fs)
    | _ => F2 x
  have f3i : ∀ {x C dx fs}, F x = some (.ins C dx fs) → F3 x = F x := fun {x C dx fs} h => by show (match F x with | some (.ins C dx fs) => _ | _ => _) = _; rw [h]
  have f3n : ∀ {x}, (∀ C dx fs, F x ≠ some (.ins C dx fs)) → F3 x = F2 x := fun {x} h => by
    show (match F x with | some (.ins C dx fs) => _ | _ => _) = _
    split
    · rename_i C dx fs e; exact absurd e (h C dx fs)
    · rfl
  have dec : ∀ x, (∃ C dx fs, F x = some (.ins C dx fs)) ∨ (∀ C dx fs, F x ≠ some (.ins C dx fs)) := fun x => by
    by_cases h : ∃ C dx fs, F x = some (.ins C dx fs)
    · exact .inl h
    · exact .inr fun C dx fs z => h ⟨C, dx, fs, z⟩
  have s3 : Same F F3 := fun x o q => by
    rcases dec x with ⟨C, dx, fs, e⟩ | e
    · rw [f3i e]; exact q
    · rw [f3n e]
      refine fz.ff _ _ (strip_some q ?_)
      cases ho : isIns o with
      | false => rfl
      | true => cases o <;> first | exact absurd q (e _ _ _) | cases ho
  have s23 : Same F2 F3 := fun x o q => by
    rcases dec x with ⟨C, dx, fs, e⟩ | e
    · rw [f3i e]
      rcases fz.nw x o q with z | z
      · exact strip_le _ _ z
      · have hx := r.same _ _ e
        have nx : x ≠ l := fun w => by rw [w, h3] at hx; cases hx
        rw [rem_ne nx, hx] at z; cases z
    · rw [f3n e]; exact q
  have nwF : ∀ x o, F3 x = some o → F x = some o ∨ H x = none := fun x o q => by
    rcases dec x with ⟨C, dx, fs, e⟩ | e
    · rw [f3i e] at q; exact .inl q
    · rw [f3n e] at q
      rcases fz.nw x o q with z | z
      · exact .inl (strip_le _ _ z)
      · by_cases nx : x = l
        · rw [nx, g2] at q; cases q
        · rw [rem_ne nx] at z; exact .inr z
  have f3l : F3 l = none := by rw [f3n (no_ni hFl)]; exact g2
  have f3h : Same F3 H2 := fun x o q => by
    rcases dec x with ⟨C, dx, fs, e⟩ | e
    · rw [f3i e] at q
      have hx := r.same _ _ q
      have nx : x ≠ l := fun w => by rw [w, hFl] at q; cases q
      exact fz.hh _ _ ((rem_ne nx).trans hx)
    · rw [f3n e] at q; exact fz.fh _ _ q
  have x : Fz F H F3 (upd H2 l (.lst vs)) := by
    refine ⟨s3, fun y o q => ?_, fun y o q => ?_, nwF⟩
    · by_cases ny : y = l
      · rw [ny] at q ⊢; rw [h3] at q; cases q; exact upd_same
      · rw [upd_ne ny]; exact fz.hh _ _ ((rem_ne ny).trans q)
    · have ny : y ≠ l := fun w => by rw [w, f3l] at q; cases q
      rw [upd_ne ny]; exact f3h _ _ q
  have r2 := r.step x
  have a2 : F3 a = some (.ins C dx (yfs l k)) := s3 _ _ h2
  have gc2 : CpOk K F3 (upd H2 l (.lst vs)) a [l] (.yd p st k) := ⟨C, dx, l, vs, hC, rfl, by rw [upd_ne nal]; exact f3h _ _ a2, a2, upd_same, dpa_mono s3 h4⟩
  have r3 := r2.putC (H' := H2) (t' := .yd p st' k) hi ea gc2 ⟨C, dx, l, us, hC, rfl, f3h _ _ a2, a2, g3, dpa_mono s23 g4⟩ (fun z => z.set) fun y hy => by
    rw [upd_ne fun z => hy (by rw [z]; exact List.mem_singleton.mpr rfl)]
  exact ⟨F3, s3, s23, r3⟩

/-! ### a method called, what it raises wished for by the slots -/
def tMw (C : Addr) (m : Str) (sp : Sp) (E : L2.St → XK) (ta : TE) (t : TA) : TE := fun σ H Q => ta σ H fun x H1 => ∃ a dx fs, x = .ref a ∧ H1 a = some (.ins C dx fs) ∧ fs.lookup m = none ∧ t σ H1 fun vs H2 => sp (x :: vs) H2 Q (E σ)
section
variable {X : Cx} {CX : CXT} {n : Nat} {f C : Addr} {fd : FuncData} {ps : List Str} {sp : Sp} {E : L2.St → XK} {m : Str} {cp ap : Pos} {e o : Expr} {es : List Expr} {ta : TE} {t : TA}
theorem pe_mw {pl : Sem Bool} (ho : PE X o ta) (c : Cls X.K C) (hm : Meth X.K C m f) (F : FnOk X.prog X.w X.K X.mg X.base CX n f fd ps sp) (hr : Room n X.A) (hb : Binds X.K fd ps []) (hx : ∀ σ, PassesAt CX X σ (E σ)) (ha : PA X (e :: es) t)
    (h1 : starEach (e :: es) X.env = (false, eval e X.env) :: starEach es X.env := by rfl) (h2 : (backTo cp (starEach es X.env)).any (·.1) = false := by rfl)
    (h3 : eval (.Call (.Attribute o m ap) (e :: es) [] cp) X.env = (do let ov ← eval o X.env; standAt ap.atName; let (f, first) ← holding [ov] (getMethod ov m pl); callWith cp f first (backTo cp (starEach (e :: es) X.env)) (backToKw cp (keywordEach [] X.env))) := by rfl) :
    PE X (.Call (.Attribute o m ap) (e :: es) [] cp) (tMw C m sp E ta t) := ⟨fun pins s σ H Q I h => by
  refine PySem.W.methodCall_KW (pl := pl) (thn (ho.run pins s σ H _ I h) fun u s1 ⟨x, H1, I1, rx, a, dx, fs, ex, ea, l, q⟩ => ?_) h3
  subst ex
  have eu : u = Value.ref a := rx
  subst eu
  exact getmeth_ok I1 ea c hm l (PySem.W.callWith_K (first := [.ref a]) (h₀ := X.base) I.ok.mod.kin hm.kp (thn (ha.run cp pins s1 σ H1 _ I1 q) fun us s2 ⟨vs, H2, I2, r, q2⟩ => ⟨I2.kIn, run_fnS (us := .ref a :: us) (vs := .ref a :: vs) F hr hb (hx σ) I2 (.cons rfl r) q2⟩) h1 h2)⟩
theorem pe_mw0 {pl : Sem Bool} (ho : PE X o ta) (c : Cls X.K C) (hm : Meth X.K C m f) (F : FnOk X.prog X.w X.K X.mg X.base CX n f fd ps sp) (hr : Room n X.A) (hb : Binds X.K fd ps []) (hx : ∀ σ, PassesAt CX X σ (E σ))
    (h3 : eval (.Call (.Attribute o m ap) [] [] cp) X.env = (do let ov ← eval o X.env; standAt ap.atName; let (f, first) ← holding [ov] (getMethod ov m pl); callWith cp f first (backTo cp (starEach [] X.env)) (backToKw cp (keywordEach [] X.env))) := by rfl) :
    PE X (.Call (.Attribute o m ap) [] [] cp) (tMw C m sp E ta tNil) := ⟨fun pins s σ H Q I h => by
  refine PySem.W.methodCall_KW (pl := pl) (thn (ho.run pins s σ H _ I h) fun u s1 ⟨x, H1, I1, rx, a, dx, fs, ex, ea, l, q⟩ => ?_) h3
  subst ex
  have eu : u = Value.ref a := rx
  subst eu
  exact getmeth_ok I1 ea c hm l (PySem.W.callWith_K0 (first := [.ref a]) I1.kIn hm.kp (run_fnS (us := [.ref a]) (vs := [.ref a]) F hr hb (hx σ) I1 (.cons rfl .nil) q))⟩
end
end VS
end
section
set_option Elab.async false
set_option linter.all false
set_option maxRecDepth 100000
set_option autoImplicit false
namespace VS
open PySem PySem.Spec PyProof.Rows L2
/-! ### expressions that may change an instance -/
abbrev RY (α : Type) := R (Exc × Rho) (α × Rho)
def fE (K : PySem.W.Frag) (xc : Nat → Addr) (W : WX) (g : Rho → RY PyData) : TE := fun σ H Q => ∃ F0 H0 ρ F, SRel K F0 H0 ρ σ F H ∧ g ρ ≠ .bad ∧
  (∀ d ρ', g ρ = .ok (d, ρ') → ∀ v F2 H2, Same F F2 → SRel K F0 H0 ρ' σ F2 H2 → Dq K F2 v d → Q v H2) ∧
  (∀ x ρ', g ρ = .ex (x, ρ') → ∀ cls dd F2 H2, Same F F2 → SRel K F0 H0 ρ' σ F2 H2 → XOk K xc F2 H2 x cls dd → W cls dd σ H2)
def fT (K : PySem.W.Frag) (xc : Nat → Addr) (W : WX) (g : Rho → RY Bool) : TT := fun σ H Q => ∃ F0 H0 ρ F, SRel K F0 H0 ρ σ F H ∧ g ρ ≠ .bad ∧
  (∀ d ρ', g ρ = .ok (d, ρ') → ∀ F2 H2, Same F F2 → SRel K F0 H0 ρ' σ F2 H2 → Q d H2) ∧
  (∀ x ρ', g ρ = .ex (x, ρ') → ∀ cls dd F2 H2, Same F F2 → SRel K F0 H0 ρ' σ F2 H2 → XOk K xc F2 H2 x cls dd → W cls dd σ H2)
abbrev DEf (X : Cx) (xc : Nat → Addr) (W : WX) (e : Expr) (g : Rho → RY PyData) : Prop := PE X e (fE X.K xc W g)
abbrev DTf (X : Cx) (xc : Nat → Addr) (W : WX) (e : Expr) (g : Rho → RY Bool) : Prop := PT X e (fT X.K xc W g)
abbrev DWf (X : Cx) (xc : Nat → Addr) (W : WX) (e : Expr) (g : Rho → RY Bool) : Prop := PW X e (fT X.K xc W g)
section
variable {K : PySem.W.Frag} {xc : Nat → Addr} {W : WX} {g : Rho → RY PyData} {gt : Rho → RY Bool} {F0 H0 F H : Hp} {ρ : Rho} {σ : L2.St}
theorem fE.go {β : Type} {f : PyData × Rho → RY β} {Q : VK} (r : SRel K F0 H0 ρ σ F H) (hb : (g ρ).bind f ≠ .bad)
    (hx : ∀ x ρ', (g ρ).bind f = .ex (x, ρ') → ∀ cls dd F2 H2, Same F F2 → SRel K F0 H0 ρ' σ F2 H2 → XOk K xc F2 H2 x cls dd → W cls dd σ H2)
    (h : ∀ d ρ1, g ρ = .ok (d, ρ1) → ∀ v F2 H2, Same F F2 → SRel K F0 H0 ρ1 σ F2 H2 → Dq K F2 v d → f (d, ρ1) ≠ .bad → (∀ x ρ', f (d, ρ1) = .ex (x, ρ') → ∀ cls dd F3 H3, Same F2 F3 → SRel K F0 H0 ρ' σ F3 H3 → XOk K xc F3 H3 x cls dd → W cls dd σ H3) → Q v H2) : fE K xc W g σ H Q := by
  refine ⟨F0, H0, ρ, F, r, fun z => hb (by rw [z]; rfl), fun d ρ1 e v F2 H2 s r1 kk => ?_, fun x ρ' e cls dd F2 H2 s r1 q => hx x ρ' (by rw [e]; rfl) cls dd F2 H2 s r1 q⟩
  rw [e] at hb hx
  exact h d ρ1 e v F2 H2 s r1 kk hb fun y ρ' ey cls dd F3 H3 s2 r2 q => hx y ρ' ey cls dd F3 H3 (s.trans s2) r2 q
theorem fT.go {β : Type} {f : Bool × Rho → RY β} {Q : Bool → Hp → Prop} (r : SRel K F0 H0 ρ σ F H) (hb : (gt ρ).bind f ≠ .bad)
    (hx : ∀ x ρ', (gt ρ).bind f = .ex (x, ρ') → ∀ cls dd F2 H2, Same F F2 → SRel K F0 H0 ρ' σ F2 H2 → XOk K xc F2 H2 x cls dd → W cls dd σ H2)
    (h : ∀ d ρ1, gt ρ = .ok (d, ρ1) → ∀ F2 H2, Same F F2 → SRel K F0 H0 ρ1 σ F2 H2 → f (d, ρ1) ≠ .bad → (∀ x ρ', f (d, ρ1) = .ex (x, ρ') → ∀ cls dd F3 H3, Same F2 F3 → SRel K F0 H0 ρ' σ F3 H3 → XOk K xc F3 H3 x cls dd → W cls dd σ H3) → Q d H2) : fT K xc W gt σ H Q := by
  refine ⟨F0, H0, ρ, F, r, fun z => hb (by rw [z]; rfl), fun d ρ1 e F2 H2 s r1 => ?_, fun x ρ' e cls dd F2 H2 s r1 q => hx x ρ' (by rw [e]; rfl) cls dd F2 H2 s r1 q⟩
  rw [e] at hb hx
  exact h d ρ1 e F2 H2 s r1 hb fun y ρ' ey cls dd F3 H3 s2 r2 q => hx y ρ' ey cls dd F3 H3 (s.trans s2) r2 q
end
def upE {α : Type} (g : Rho → RE α) : Rho → RY α := fun ρ => match g ρ with
  | .ok d => .ok (d, ρ)
  | .ex x => .ex (x, ρ)
  | .bad => .bad
def yBin (op : PyData → PyData → Option PyData) (ga gb : Rho → RY PyData) : Rho → RY PyData := fun ρ => (ga ρ).bind fun p => (gb p.2).bind fun q => (R.of (op p.1 q.1)).bind fun z => .ok (z, q.2)
def yTest (g : Rho → RY PyData) : Rho → RY Bool := fun ρ => (g ρ).bind fun p => match p.1 with
  | .bool b => .ok (b, p.2)
  | _ => .bad
def yTru (g : Rho → RY PyData) : Rho → RY Bool := fun ρ => (g ρ).bind fun p => (R.of (truD p.1)).bind fun b => .ok (b, p.2)
def yNot (g : Rho → RY Bool) : Rho → RY Bool := fun ρ => (g ρ).bind fun p => .ok (!p.1, p.2)
def yOr (g h : Rho → RY Bool) : Rho → RY Bool := fun ρ => (g ρ).bind fun p => cond p.1 (.ok (true, p.2)) (h p.2)
def yAnd (g h : Rho → RY Bool) : Rho → RY Bool := fun ρ => (g ρ).bind fun p => cond p.1 (h p.2) (.ok (false, p.2))
def yAndV (g h : Rho → RY PyData) : Rho → RY PyData := fun ρ => (g ρ).bind fun p => (R.of (truD p.1)).bind fun b => cond b (h p.2) (.ok (p.1, p.2))
def yIf (t : Rho → RY Bool) (g h : Rho → RY PyData) : Rho → RY PyData := fun ρ => (t ρ).bind fun p => cond p.1 (g p.2) (h p.2)
section
variable {X : Cx} {xc : Nat → Addr} {W : WX} {e a b c : Expr} {rest : List Expr} {g : Rho → RE PyData} {ga gb : Rho → RY PyData} {gt gu : Rho → RY Bool} {pos : Pos} {op : PyData → PyData → Option PyData}
theorem fe_up (h : DE X xc W kF e g) : DEf X xc W e (upE g) := PE.imp h fun σ H Q ⟨F0, H0, ρ, F, r, hb, hq, hx⟩ => by
  have eu : ∀ x, g ρ = x → upE g ρ = (match x with | .ok d => .ok (d, ρ) | .ex x => .ex (x, ρ) | .bad => .bad) := fun x e => by unfold upE; rw [e]; cases x <;> rfl
  exact ⟨F0, H0, ρ, F, r, fun z => hb (eu _ z), fun d ed v F2 H2 x k => hq d ρ (eu _ ed) v F2 H2 x.ff (r.step x) k, fun x ed cls dd F2 H2 z q => hx x ρ (eu _ ed) cls dd F2 H2 z.ff (r.step z) q⟩
theorem ft_up {g : Rho → RE Bool} (h : DT X xc W e g) : DTf X xc W e (upE g) := PT.imp h fun σ H Q ⟨F0, H0, ρ, F, r, hb, hq, hx⟩ => by
  have eu : ∀ x, g ρ = x → upE g ρ = (match x with | .ok d => .ok (d, ρ) | .ex x => .ex (x, ρ) | .bad => .bad) := fun x e => by unfold upE; rw [e]; cases x <;> rfl
  exact ⟨F0, H0, ρ, F, r, fun z => hb (eu _ z), fun d ed F2 H2 x => hq d ρ (eu _ ed) F2 H2 x.ff (r.step x), fun x ed cls dd F2 H2 z q => hx x ρ (eu _ ed) cls dd F2 H2 z.ff (r.step z) q⟩
theorem ybin_imp {K : PySem.W.Frag} {r : R2} {σ : L2.St} {H : Hp} {Q : VK} (ho : OpOk K r kF op) : fE K xc W (yBin op ga gb) σ H Q → tOp r (fE K xc W ga) (fE K xc W gb) σ H Q := fun ⟨F0, H0, ρ, F, r, hb, hq, hx⟩ => by
  refine fE.go r hb hx fun d ρ1 ed v F1 H1 s1 r1 k1 hb1 hx1 => ?_
  refine fE.go r1 hb1 hx1 fun d2 ρ2 ed2 v2 F2 H2 s2 r2 k2 hb2 hx2 => ?_
  cases ez : op d d2 with
  | none => rw [ez] at hb2; exact absurd rfl hb2
  | some z =>
    refine ho F2 H2 v v2 d d2 z Q r2.same (.inl (dp_mono s2 k1)) (.inl k2) ez fun w F3 H3 x3 k3 => ?_
    refine hq z ρ2 ?_ w F3 H3 ((s1.trans s2).trans x3.ff) (r2.step x3) k3
    show ((ga ρ).bind fun p => (gb p.2).bind fun q => (R.of (op p.1 q.1)).bind fun z => .ok (z, q.2)) = _
    rw [ed, R.bind_ok, ed2, R.bind_ok, ez]; rfl
theorem ytest_imp {K : PySem.W.Frag} {σ : L2.St} {H : Hp} {Q : Bool → Hp → Prop} : fT K xc W (yTest ga) σ H Q → fE K xc W ga σ H (fun x H' => ∃ k, x = .bl k ∧ Q k H') := fun ⟨F0, H0, ρ, F, r, hb, hq, hx⟩ => by
  refine fE.go r hb hx fun d ρ1 ed v F1 H1 s1 r1 k1 hb1 hx1 => ?_
  cases d with
  | bool b =>
    cases k1
    refine ⟨b, rfl, hq b ρ1 ?_ F1 H1 s1 r1⟩
    show (ga ρ).bind _ = _
    rw [ed]; rfl
  | _ => exact absurd rfl hb1
theorem fe_eq {n : Nat} (hr : Room n X.A) (ha : DEf X xc W a ga) (hb : DEf X xc W b gb) : DEf X xc W (.Compare a [.Eq] [b] pos) (yBin eqD ga gb) := PE.imp (pe_cmpR (op_eqD hr.units) ha hb (nomark _)) fun σ H Q => ybin_imp eqD_ok
theorem fe_ne {n : Nat} (hr : Room n X.A) (ha : DEf X xc W a ga) (hb : DEf X xc W b gb) : DEf X xc W (.Compare a [.NotEq] [b] pos) (yBin neD ga gb) := PE.imp (pe_cmpR (op_neD hr.units) ha hb (nomark _)) fun σ H Q => ybin_imp neD_ok
theorem ft_eq {n : Nat} (hr : Room n X.A) (ha : DEf X xc W a ga) (hb : DEf X xc W b gb) : DTf X xc W (.Compare a [.Eq] [b] pos) (yTest (yBin eqD ga gb)) := PT.imp (pt_cmpR (op_eqD hr.units) ha hb (nomark _)) fun σ H Q q => ybin_imp eqD_ok (ytest_imp q)
theorem ft_ne {n : Nat} (hr : Room n X.A) (ha : DEf X xc W a ga) (hb : DEf X xc W b gb) : DTf X xc W (.Compare a [.NotEq] [b] pos) (yTest (yBin neD ga gb)) := PT.imp (pt_cmpR (op_neD hr.units) ha hb (nomark _)) fun σ H Q q => ybin_imp neD_ok (ytest_imp q)
theorem ft_notIn (hu : X.A.units + 65 < cLine) (ha : DEf X xc W a ga) (hb : DEf X xc W b gb) (hm : behindInMarks .NotIn b = false := by rfl) : DTf X xc W (.Compare a [.NotIn] [b] pos) (yTest (yBin notInD ga gb)) := PT.imp (pt_cmpR ((op_notInD hu).or ((op_notInU hu).or op_notin_str)) ha hb hm) fun σ H Q q => ybin_imp notInD_ok (ytest_imp q)
theorem fe_ix (ha : DEf X xc W a ga) (hb : DEf X xc W b gb) (hp : PlainIx b := by intro _ _; rfl) : DEf X xc W (.Subscript a b pos) (yBin idxD ga gb) := PE.imp (pe_ix (ix_list.or ix_tup) ha hb hp) fun σ H Q => ybin_imp idxD_ok
theorem ft_tru (h : DEf X xc W a ga) (he : ∀ whole, isTrue a X.env whole = (do let v ← whole; standAt a.pos; holding [v] (truthy v)) := by intro _; rfl) : DTf X xc W a (yTru ga) := PT.imp (pt_truth h he) fun σ H Q ⟨F0, H0, ρ, F, r, hb, hq, hx⟩ => by
  refine fE.go r hb hx fun d ρ1 ed v F1 H1 s1 r1 k1 hb1 hx1 => ?_
  cases ez : truD d with
  | none => rw [ez] at hb1; exact absurd rfl hb1
  | some z =>
    refine ⟨z, truD_ok r1.same (.inl k1) ez, hq z ρ1 ?_ F1 H1 s1 r1⟩
    show (ga ρ).bind _ = _
    rw [ed, R.bind_ok]
    show (R.of (truD d)).bind _ = _
    rw [ez]; rfl
theorem ft_not (h : DTf X xc W a gt) : DTf X xc W (.UnaryOp .Not a pos) (yNot gt) := PT.imp (pt_not h) fun σ H Q ⟨F0, H0, ρ, F, r, hb, hq, hx⟩ => by
  refine fT.go r hb hx fun d ρ1 ed F1 H1 s1 r1 hb1 hx1 => hq _ ρ1 ?_ F1 H1 s1 r1
  show (gt ρ).bind _ = _
  rw [ed]; rfl
theorem fw_or1 (h : DTf X xc W a gt) : DWf X xc W (.BoolOp .Or [a] pos) gt := pw_or1 h
theorem fw_and1 (h : DTf X xc W a gt) : DWf X xc W (.BoolOp .And [a] pos) gt := pw_and1 h
theorem fw_or (h : DTf X xc W a gt) (h2 : DWf X xc W (.BoolOp .Or (b :: rest) pos) gu) : DWf X xc W (.BoolOp .Or (a :: b :: rest) pos) (yOr gt gu) := PW.imp (pw_or h h2) fun σ H Q ⟨F0, H0, ρ, F, r, hb, hq, hx⟩ => by
  refine fT.go r hb hx fun d ρ1 ed F1 H1 s1 r1 hb1 hx1 => ?_
  have eq : yOr gt gu ρ = cond d (.ok (true, ρ1)) (gu ρ1) := by
    show (gt ρ).bind _ = _
    rw [ed]; rfl
  cases d with
  | false => exact ⟨F0, H0, ρ1, F1, r1, hb1, fun d2 ρ2 e2 F2 H2 s2 => hq d2 ρ2 (eq.trans e2) F2 H2 (s1.trans s2), hx1⟩
  | true => exact hq true ρ1 eq F1 H1 s1 r1
theorem fw_and (h : DTf X xc W a gt) (h2 : DWf X xc W (.BoolOp .And (b :: rest) pos) gu) : DWf X xc W (.BoolOp .And (a :: b :: rest) pos) (yAnd gt gu) := PW.imp (pw_and h h2) fun σ H Q ⟨F0, H0, ρ, F, r, hb, hq, hx⟩ => by
  refine fT.go r hb hx fun d ρ1 ed F1 H1 s1 r1 hb1 hx1 => ?_
  have eq : yAnd gt gu ρ = cond d (gu ρ1) (.ok (false, ρ1)) := by
    show (gt ρ).bind _ = _
    rw [ed]; rfl
  cases d with
  | true => exact ⟨F0, H0, ρ1, F1, r1, hb1, fun d2 ρ2 e2 F2 H2 s2 => hq d2 ρ2 (eq.trans e2) F2 H2 (s1.trans s2), hx1⟩
  | false => exact hq false ρ1 eq F1 H1 s1 r1
theorem ft_w (h : DWf X xc W a gt) : DTf X xc W a gt := h.pt
theorem fe_one {op : BoolOp} (h : DEf X xc W a ga) : DEf X xc W (.BoolOp op [a] pos) ga := pe_one h
theorem fe_and (h : DEf X xc W a ga) (h2 : DEf X xc W (.BoolOp .And (b :: rest) pos) gb) : DEf X xc W (.BoolOp .And (a :: b :: rest) pos) (yAndV ga gb) := PE.imp (pe_andT h h2) fun σ H Q ⟨F0, H0, ρ, F, r, hb, hq, hx⟩ => by
  refine fE.go r hb hx fun d ρ1 ed v F1 H1 s1 r1 k1 hb1 hx1 => ?_
  cases q : truD d with
  | none => rw [q] at hb1; exact absurd rfl hb1
  | some t =>
    rw [q] at hb1 hx1
    have eq : yAndV ga gb ρ = cond t (gb ρ1) (.ok (d, ρ1)) := by
      show (ga ρ).bind _ = _
      rw [ed, R.bind_ok]
      show (R.of (truD d)).bind _ = _
      rw [q]; rfl
    refine ⟨t, truD_ok r1.same (.inl k1) q, ?_⟩
    cases t with
    | true =>
      rw [if_pos rfl]
      exact ⟨F0, H0, ρ1, F1, r1, hb1, fun d2 ρ2 e2 v2 F2 H2 s2 => hq d2 ρ2 (eq.trans e2) v2 F2 H2 (s1.trans s2), hx1⟩
    | false =>
      rw [if_neg Bool.false_ne_true]
      exact hq d ρ1 eq v F1 H1 s1 r1 k1
theorem fe_if (ht : DTf X xc W c gt) (ha : DEf X xc W a ga) (h2 : DEf X xc W b gb) : DEf X xc W (.IfExp c a b pos) (yIf gt ga gb) := PE.imp (pe_ifExp ht ha h2) fun σ H Q ⟨F0, H0, ρ, F, r, hb, hq, hx⟩ => by
  refine fT.go r hb hx fun d ρ1 ed F1 H1 s1 r1 hb1 hx1 => ?_
  have eq : yIf gt ga gb ρ = cond d (ga ρ1) (gb ρ1) := by
    show (gt ρ).bind _ = _
    rw [ed]; rfl
  cases d with
  | true =>
    rw [if_pos rfl]
    exact ⟨F0, H0, ρ1, F1, r1, hb1, fun d2 ρ2 e2 v2 F2 H2 s2 => hq d2 ρ2 (eq.trans e2) v2 F2 H2 (s1.trans s2), hx1⟩
  | false =>
    rw [if_neg Bool.false_ne_true]
    exact ⟨F0, H0, ρ1, F1, r1, hb1, fun d2 ρ2 e2 v2 F2 H2 s2 => hq d2 ρ2 (eq.trans e2) v2 F2 H2 (s1.trans s2), hx1⟩
end

/-! ### statements -/
def stY {α : Type} (g : Rho → RY α) (f : α → Rho → RS) : Rho → RS := fun ρ => match g ρ with
  | .ok (a, ρ1) => f a ρ1
  | .ex (x, ρ1) => .ex (x, ρ1)
  | .bad => .bad
def dExpY (g : Rho → RY PyData) : Rho → RS := stY g fun _ ρ => .ok (.nx ρ)
def dRetY (g : Rho → RY PyData) : Rho → RS := stY g fun d ρ => .ok (.ry d ρ)
def dSetY (i : Nat) (g : Rho → RY PyData) : Rho → RS := stY g fun d ρ => .ok (.nx (ρ.set i (some (.fr d))))
def dIfY (t : Rho → RY Bool) (g h : Rho → RS) : Rho → RS := stY t fun b ρ => cond b (g ρ) (h ρ)
section
variable {X : Cx} {xc : Nat → Addr} {W : WX} {e c : Expr} {g : Rho → RY PyData} {gt : Rho → RY Bool} {pos : Pos} {st : Stmt} {i : Nat} {s1 s2 : Rho → RS}
theorem fE.stm {K : PySem.W.Frag} {D : Ends} {F0 H0 F H : Hp} {ρ : Rho} {σ : L2.St} {f : PyData → Rho → RS} {Q : VK} (r : SRel K F0 H0 ρ σ F H) (hg : Good K xc W D F0 H0 F (stY g f ρ)) (h : ∀ d ρ1, ∀ v F2 H2, Same F F2 → SRel K F0 H0 ρ1 σ F2 H2 → Dq K F2 v d → Good K xc W D F0 H0 F2 (f d ρ1) → Q v H2) : fE K xc W g σ H Q := by
  have eq : ∀ x, g ρ = x → stY g f ρ = (match x with | .ok (a, ρ1) => f a ρ1 | .ex (x, ρ1) => .ex (x, ρ1) | .bad => .bad) := fun x e => by unfold stY; rw [e]; cases x <;> rfl
  refine ⟨F0, H0, ρ, F, r, fun z => hg.nb (eq _ z), fun d ρ1 e v F2 H2 s r1 kk => ?_, fun x ρ1 e cls dd F2 H2 s r1 q => ?_⟩
  · rw [eq _ e] at hg
    exact h d ρ1 v F2 H2 s r1 kk (hg.mono s)
  · rw [eq _ e] at hg
    exact hg.ex x ρ1 rfl cls dd σ F2 H2 s r1 q
theorem fT.stm {K : PySem.W.Frag} {D : Ends} {F0 H0 F H : Hp} {ρ : Rho} {σ : L2.St} {f : Bool → Rho → RS} {Q : Bool → Hp → Prop} (r : SRel K F0 H0 ρ σ F H) (hg : Good K xc W D F0 H0 F (stY gt f ρ)) (h : ∀ d ρ1, ∀ F2 H2, Same F F2 → SRel K F0 H0 ρ1 σ F2 H2 → Good K xc W D F0 H0 F2 (f d ρ1) → Q d H2) : fT K xc W gt σ H Q := by
  have eq : ∀ x, gt ρ = x → stY gt f ρ = (match x with | .ok (a, ρ1) => f a ρ1 | .ex (x, ρ1) => .ex (x, ρ1) | .bad => .bad) := fun x e => by unfold stY; rw [e]; cases x <;> rfl
  refine ⟨F0, H0, ρ, F, r, fun z => hg.nb (eq _ z), fun d ρ1 e F2 H2 s r1 => ?_, fun x ρ1 e cls dd F2 H2 s r1 q => ?_⟩
  · rw [eq _ e] at hg
    exact h d ρ1 F2 H2 s r1 (hg.mono s)
  · rw [eq _ e] at hg
    exact hg.ex x ρ1 rfl cls dd σ F2 H2 s r1 q
theorem ds_exprY (h : PS X st (tDrop (fE X.K xc W g))) : DS1 X xc W st (dExpY g) := PS.imp h fun D σ H ⟨F0, H0, ρ, F, r, hg⟩ =>
  fE.stm r hg fun d ρ1 v F2 H2 s r2 kk g2 => g2.nx _ rfl _ F2 H2 (.refl _) r2
theorem ds_retY (h : DEf X xc W e g) : DS1 X xc W (.Return (some e) pos) (dRetY g) := PS.imp (ps_ret h) fun D σ H ⟨F0, H0, ρ, F, r, hg⟩ =>
  fE.stm r hg fun d ρ1 v F2 H2 s r2 kk g2 => g2.ry d ρ1 rfl v _ F2 H2 (.refl _) r2 kk
theorem ds_setY (h : PS X st (tAsg (fE X.K xc W g) (gName i))) : DS1 X xc W st (dSetY i g) := PS.imp h fun D σ H ⟨F0, H0, ρ, F, r, hg⟩ =>
  fE.stm r hg fun d ρ1 v F2 H2 s r2 kk g2 => g2.nx _ rfl _ F2 H2 (.refl _) (r2.setF kk)
theorem ds_ifY {sa sb : List Stmt} (ht : DTf X xc W c gt) (h1 : DS X xc W sa s1) (h2 : DS X xc W sb s2) : DS1 X xc W (.If c sa sb pos) (dIfY gt s1 s2) := PS.imp (ps_if ht h1 h2) fun D σ H ⟨F0, H0, ρ, F, r, hg⟩ =>
  fT.stm r hg fun d ρ1 F2 H2 s r2 g2 => by
    cases d with
    | true => rw [if_pos rfl]; exact ⟨F0, H0, ρ1, F2, r2, g2⟩
    | false => rw [if_neg Bool.false_ne_true]; exact ⟨F0, H0, ρ1, F2, r2, g2⟩
/-- what is never reached -/
theorem ds_bad : DS1 X xc W st (fun _ => .bad) := ⟨fun pins s σ H D I q => by
  obtain ⟨_, _, _, _, _, hg⟩ := q
  exact absurd rfl hg.nb⟩
theorem dss_bad {sts : List Stmt} : DS X xc W sts (fun _ => .bad) := ⟨fun pins s σ H D I q => by
  obtain ⟨_, _, _, _, _, hg⟩ := q
  exact absurd rfl hg.nb⟩
theorem de_bad {k : Kd} : DE X xc W k e (fun _ => .bad) := ⟨fun pins s σ H Q I q => by
  obtain ⟨_, _, _, _, _, hb, _⟩ := q
  exact absurd rfl hb⟩
end

theorem XOk.mono {K : PySem.W.Frag} {xc : Nat → Addr} {F H F' H' : Hp} {x : Exc} {cls : Value} {dd : Option Addr} (h : XOk K xc F H x cls dd) (s : Same F F') : XOk K xc F' H' x cls dd := by
  obtain ⟨h1, h2⟩ := h
  refine ⟨h1, ?_⟩
  cases ha : x.arg with
  | none => rw [ha] at h2; exact h2
  | some d =>
    rw [ha] at h2
    obtain ⟨b, v, g1, g2, g3⟩ := h2
    exact ⟨b, v, g1, s _ _ g2, dp_mono s g3⟩
/-! ### calls -/
def outM (i : Nat) (p : Bool) (k : Int) (ρ : Rho) : RM → RY PyData
  | .ok (d, st') => .ok (d, ρ.set i (some (.cp (.yd p st' k))))
  | .ex (x, st') => .ex (x, ρ.set i (some (.cp (.yd p st' k))))
  | .bad => .bad
def dYM (f : FM) (i : Nat) (gs : Rho → RE (List PyData)) : Rho → RY PyData := fun ρ => match ρ[i]? with
  | some (some (.cp (.yd p st k))) => (upE gs ρ).bind fun q => outM i p k ρ (f (st, k) q.1)
  | _ => .bad
def dYR (f : FR) (i : Nat) (gs : Rho → RE (List PyData)) : Rho → RE PyData := fun ρ => match getY ρ[i]? with
  | some s => (gs ρ).bind (f s)
  | none => .bad
section
variable {K : PySem.W.Frag} {xc : Nat → Addr} {W : WX} {ks : List Bool} {gs : Rho → RE (List PyData)} {i : Nat} {σ : L2.St} {H : Hp} {Q : VK}
/-- the reading of a call: the instance, the other arguments, the promise -/
theorem ym_imp {f : FM} (hka : ∀ b ∈ ks, b = true) (h : fE K xc W (dYM f i gs) σ H Q) : ∃ a l C dx k, σ[i]? = some (some (.ref a)) ∧ YC K C ∧ H a = some (.ins C dx (yfs l k)) ∧ bC K xc W ks gs σ H (fun vs H2 => spM K xc ks f (.ref a :: vs) H2 Q (WE W σ)) := by
  obtain ⟨F0, H0, ρ, F, r, hb, hq, hx⟩ := h
  unfold dYM at hb hq hx
  split at hb
  · rename_i p st k q
    rw [q] at hq hx
    dsimp only at hq hx
    obtain ⟨a, l, C, dx, ea, hC, h1, _⟩ := r.callM q
    have eg : ∀ z, gs ρ = z → ((upE gs ρ).bind fun q => outM i p k ρ (f (st, k) q.1)) = (match z with | .ok ds => outM i p k ρ (f (st, k) ds) | .ex x => .ex (x, ρ) | .bad => .bad) := fun z e => by
      unfold upE; rw [e]; cases z <;> rfl
    refine ⟨a, l, C, dx, k, ea, hC, h1, F0, H0, ρ, F, r, fun z => hb (eg _ z), fun ds ed vs F2 H2 fz ka => ?_, fun x ed cls dd F2 H2 z qq => hx x ρ (eg _ ed) cls dd F2 H2 z.ff (r.step z) qq⟩
    have eg := eg _ ed
    dsimp only at eg
    rw [eg] at hb hq hx
    have r2 := r.step fz
    obtain ⟨a', l', C', dx', ea', hC', h1', y, fin⟩ := r2.callM q
    rw [ea] at ea'; cases ea'
    refine ⟨stripI a F2, a, l', vs, st, k, ds, rfl, strip_le.trans r2.same, y, fun x C dx fs hh => strip_un hh, aok_strip hka ka, fun z => hb (by rw [z]; rfl), fun d st' e v F3 H3 ys dv => ?_, fun x st' e cls dd F3 H3 ys xo => ?_⟩
    · obtain ⟨F4, s4, s5, r4⟩ := fin F3 H3 st' ys
      exact hq d _ (by rw [e]; rfl) v F4 H3 (fz.ff.trans s4) r4 (dp_mono s5 dv)
    · obtain ⟨F4, s4, s5, r4⟩ := fin F3 H3 st' ys
      exact hx x _ (by rw [e]; rfl) cls dd F4 H3 (fz.ff.trans s4) r4 (xo.mono s5)
  · exact absurd rfl hb
theorem yr_imp {f : FR} (h : eC K xc W kF (dYR f i gs) σ H Q) : ∃ a l C dx k, σ[i]? = some (some (.ref a)) ∧ YC K C ∧ H a = some (.ins C dx (yfs l k)) ∧ bC K xc W ks gs σ H (fun vs H2 => spR K xc ks f (.ref a :: vs) H2 Q (WE W σ)) := by
  obtain ⟨F0, H0, ρ, F, r, hb, hq, hx⟩ := h
  unfold dYR at hb hq hx
  cases q : getY ρ[i]? with
  | none => rw [q] at hb; exact absurd rfl hb
  | some s =>
    obtain ⟨st, k⟩ := s
    rw [q] at hb hq hx
    dsimp only at hb hq hx
    obtain ⟨a, C, dx, l, us, ea, hC, h1, _⟩ := r.yard q
    refine ⟨a, l, C, dx, k, ea, hC, h1, bC.go r hb hx fun ds ed vs F2 H2 x r2 ka hb2 hx2 => ?_⟩
    obtain ⟨a', C', dx', l', us', ea', hC', h1', h2', h3'⟩ := r2.yard q
    rw [ea] at ea'; cases ea'
    exact ⟨F2, a, vs, st, k, ds, rfl, r2.same, ⟨C', dx', l', us', hC', h1', h2', h3'⟩, ka, hb2, fun d e v F3 H3 z dv => hq d (by rw [ed]; exact e) v F3 H3 (x.trans z) dv, fun y e cls dd F3 H3 z xo => hx2 y e cls dd F3 H3 z xo⟩
end
section
variable {X : Cx} {xc : Nat → Addr} {W : WX} {ks : List Bool} {gs : Rho → RE (List PyData)} {i n : Nat} {o e : Expr} {es : List Expr} {C f : Addr} {fd : FuncData} {ps : List Str} {m x : Str} {fm : FM} {fr : FR} {ap cp p : Pos}
theorem fe_meth {pl : Sem Bool} (T : YT X.K X.mg C) (ho : PE X o (tVar i)) (hm : Meth X.K C m f) (F : FnOk X.prog X.w X.K X.mg X.base (L2.CX X.prog X.w) n f fd ps (spM X.K xc ks fm)) (hr : Room n X.A) (hb : Binds X.K fd ps []) (tk : Takes X W) (ha : DB X xc W ks (e :: es) gs) (hka : ∀ b ∈ ks, b = true) (hno : (m == ("steps" : Str)) = false := by decide +kernel) (hno2 : (m == ("kept" : Str)) = false := by decide +kernel)
    (h1 : starEach (e :: es) X.env = (false, eval e X.env) :: starEach es X.env := by rfl) (h2 : (backTo cp (starEach es X.env)).any (·.1) = false := by rfl)
    (h3 : eval (.Call (.Attribute o m ap) (e :: es) [] cp) X.env = (do let ov ← eval o X.env; standAt ap.atName; let (f, first) ← holding [ov] (getMethod ov m pl); callWith cp f first (backTo cp (starEach (e :: es) X.env)) (backToKw cp (keywordEach [] X.env))) := by rfl) :
    DEf X xc W (.Call (.Attribute o m ap) (e :: es) [] cp) (dYM fm i gs) := PE.imp (pe_mw ho T.cl hm F hr hb (fun σ => passAt tk σ) ha h1 h2 h3) fun σ H Q q => by
  obtain ⟨a, l, D, dx, k, ea, hD, hA, q⟩ := ym_imp hka q
  have := T.yc.uq hD
  subst this
  exact ⟨_, ea, a, dx, _, rfl, hA, yfs_no l k hno hno2, q⟩
theorem fe_meth0 {pl : Sem Bool} (T : YT X.K X.mg C) (ho : PE X o (tVar i)) (hm : Meth X.K C m f) (F : FnOk X.prog X.w X.K X.mg X.base (L2.CX X.prog X.w) n f fd ps (spM X.K xc [] fm)) (hr : Room n X.A) (hb : Binds X.K fd ps []) (tk : Takes X W) (hno : (m == ("steps" : Str)) = false := by decide +kernel) (hno2 : (m == ("kept" : Str)) = false := by decide +kernel)
    (h3 : eval (.Call (.Attribute o m ap) [] [] cp) X.env = (do let ov ← eval o X.env; standAt ap.atName; let (f, first) ← holding [ov] (getMethod ov m pl); callWith cp f first (backTo cp (starEach [] X.env)) (backToKw cp (keywordEach [] X.env))) := by rfl) :
    DEf X xc W (.Call (.Attribute o m ap) [] [] cp) (dYM fm i dNil) := PE.imp (pe_mw0 ho T.cl hm F hr hb (fun σ => passAt tk σ) h3) fun σ H Q q => by
  obtain ⟨a, l, D, dx, k, ea, hD, hA, q⟩ := ym_imp (ks := []) (fun _ h => by cases h) q
  have := T.yc.uq hD
  subst this
  obtain ⟨F0, H0, ρ, F, r, _, q, _⟩ := q
  exact ⟨_, ea, a, dx, _, rfl, hA, yfs_no l k hno hno2, q [] rfl [] F H (.refl r.same) ⟨rfl, rfl⟩⟩
theorem fe_call (F : FnOk X.prog X.w X.K X.mg X.base (L2.CX X.prog X.w) n f fd ps (spM X.K xc ks fm)) (hr : Room n X.A) (hg : Gl X x) (hm : X.mg x = some (.ref f)) (hk : PySem.W.keepIn X.K (.ref f) = true) (hb : Binds X.K fd ps []) (tk : Takes X W) (ho : PE X o (tVar i)) (ha : DB X xc W ks es gs) (hka : ∀ b ∈ ks, b = true) (hdb : (x == ("__debug__" : Str)) = false := by decide)
    (he : starEach (o :: es) X.env = (false, eval o X.env) :: starEach es X.env := by rfl) (hpl : (backTo cp (starEach es X.env)).any (·.1) = false := by rfl) :
    DEf X xc W (.Call (.Name x p) (o :: es) [] cp) (dYM fm i gs) := PE.imp (pe_callS F hr hg hm hk hb (fun σ => passAt tk σ) (pa_cons ho ha he) hdb he hpl) fun σ H Q q => by
  obtain ⟨a, l, D, dx, k, ea, hD, hA, q⟩ := ym_imp hka q
  exact ⟨_, ea, q⟩
theorem de_methR {pl : Sem Bool} (T : YT X.K X.mg C) (ho : PE X o (tVar i)) (hm : Meth X.K C m f) (F : FnOk X.prog X.w X.K X.mg X.base (L2.CX X.prog X.w) n f fd ps (spR X.K xc [] fr)) (hr : Room n X.A) (hb : Binds X.K fd ps []) (tk : Takes X W) (hno : (m == ("steps" : Str)) = false := by decide +kernel) (hno2 : (m == ("kept" : Str)) = false := by decide +kernel)
    (h3 : eval (.Call (.Attribute o m ap) [] [] cp) X.env = (do let ov ← eval o X.env; standAt ap.atName; let (f, first) ← holding [ov] (getMethod ov m pl); callWith cp f first (backTo cp (starEach [] X.env)) (backToKw cp (keywordEach [] X.env))) := by rfl) :
    DE X xc W kF (.Call (.Attribute o m ap) [] [] cp) (dYR fr i dNil) := PE.imp (pe_mw0 ho T.cl hm F hr hb (fun σ => passAt tk σ) h3) fun σ H Q q => by
  obtain ⟨a, l, D, dx, k, ea, hD, hA, q⟩ := yr_imp (ks := []) q
  have := T.yc.uq hD
  subst this
  obtain ⟨F0, H0, ρ, F, r, _, q, _⟩ := q
  exact ⟨_, ea, a, dx, _, rfl, hA, yfs_no l k hno hno2, q [] rfl [] F H (.refl r.same) ⟨rfl, rfl⟩⟩
theorem de_callR (F : FnOk X.prog X.w X.K X.mg X.base (L2.CX X.prog X.w) n f fd ps (spR X.K xc ks fr)) (hr : Room n X.A) (hg : Gl X x) (hm : X.mg x = some (.ref f)) (hk : PySem.W.keepIn X.K (.ref f) = true) (hb : Binds X.K fd ps []) (tk : Takes X W) (ho : PE X o (tVar i)) (ha : DB X xc W ks es gs) (hdb : (x == ("__debug__" : Str)) = false := by decide)
    (he : starEach (o :: es) X.env = (false, eval o X.env) :: starEach es X.env := by rfl) (hpl : (backTo cp (starEach es X.env)).any (·.1) = false := by rfl) :
    DE X xc W kF (.Call (.Name x p) (o :: es) [] cp) (dYR fr i gs) := PE.imp (pe_callS F hr hg hm hk hb (fun σ => passAt tk σ) (pa_cons ho ha he) hdb he hpl) fun σ H Q q => by
  obtain ⟨a, l, D, dx, k, ea, hD, hA, q⟩ := yr_imp (ks := ks) q
  exact ⟨_, ea, q⟩
end
end VS
end
section
set_option Elab.async false
set_option linter.all false
set_option maxRecDepth 100000
set_option autoImplicit false
namespace VS
open PySem PySem.Spec PyProof.Rows L2
/-! ### tuple * int -/
theorem tuple_mul1 (l : Addr) (its : Array Value) (n : Nat) (dd : Option Addr) (sl : Array (Option Value)) (u : Tok) (c2 : (decide ((1 : Int) ≤ 0) || its.isEmpty) = false) :
    Meets (Builtin.«tuple.__mul__» ⟨[.ref l, .int 1 u], []⟩) (fun _ R s => s.heap.get? l = some { cls := .type "tuple", dict := dd, data := .seq its n, slots := sl } ∧ R (.ok (.ret (Value.ref l))) s) :=
  .of_wp fun prog w A R s h => by
    obtain ⟨hp, g, d, tk, os⟩ := s
    obtain ⟨hl, h⟩ := h
    have f1 := AutoSeq1.idx_int
    have f2 := AutoSeq1.sub_tuple_tuple
    have c1 : (its.isEmpty || (1 : Int) == 1) = true := by simp
    wp_walk using wpAny_loadPart' hl
    repeat (first
      | (refine wpAny_ite_true (decide_eq_true c1) ?_; wp_walk using wpAny_loadPart' hl)
      | (refine wpAny_ite_false (decide_eq_false (by rw [c2]; exact Bool.false_ne_true)) ?_; wp_walk using wpAny_loadPart' hl))
    all_goals first | exact ⟨_, rfl, h⟩ | exact h
def rRepU (K : PySem.W.Frag) : R2 := fun x y H Q => ∃ l k xs, x = .ref l ∧ y = .int k ∧ SqT K H l xs ∧ xs ≠ [] ∧ 1 ≤ k ∧ k ≤ 1000 ∧ xs.length ≤ 1000 ∧ (k = 1 → Q (.ref l) H) ∧ ∀ p us, H p = none → Q (.ref p) (upd H p (tupN us (List.replicate k.toNat xs).flatten))
theorem op_repU {X : Cx} : OpR X (binaryOp .Mult) (rRepU X.K) := by
  intro pins s σ H x y v u Q I rx ry h
  obtain ⟨l, k, xs, rfl, rfl, hT, hne, h1, h2, hz, q1, q⟩ := h
  cases rx
  obtain ⟨t, rfl⟩ := ry
  obtain ⟨its, r, ⟨⟨cls, dd, data, sl⟩, there, hc, n, hd⟩, hs⟩ := I.tuple hT
  simp only at hc hd
  subst hc hd
  have len : its.length = xs.length := r.length.symm
  have full : its.toArray.isEmpty = false := by
    cases its with
    | nil => exact absurd (List.eq_nil_of_length_eq_zero (by rw [← len]; rfl)) hne
    | cons a b => rfl
  have neg : (decide (k ≤ 0) || its.toArray.isEmpty) = false := by rw [full, Bool.or_false]; exact decide_eq_false (by omega)
  by_cases k1 : k = 1
  · subst k1
    exact wpAny_binaryOp_repeat_ref (T := "tuple") (U := "int") (by decide) ⟨_, there, rfl⟩ (fun s' => typeIs_int s' 1 t) noFill_tuple_mul F.fills_int_mul F.slot_int_rmul repeat_tuple F.slot_int_index.lookup
      (call_meets F.slot_int_rmul (typeIs_int s 1 t) F.entry_int_rmul (F.args_int_rmul_2 _ _) (int_rmul_tuple 1 t l its.toArray n dd sl)
        ⟨there, rfl, ⟨_, there, rfl⟩, call_meets F.slot_tuple_mul ⟨_, there, rfl⟩ F.entry_tuple_mul (F.args_tuple_mul_2 _ _) (tuple_mul1 l its.toArray n dd sl t neg) ⟨there, ⟨.ref l, H, I, rfl, q1 rfl⟩⟩⟩)
  have size0 : its.toArray.size = xs.length := by rw [List.size_toArray, len]
  have most : ((its.toArray.size : Nat) : Int) * k ≤ 1000000 := by
    rw [size0]
    have a1 : ((xs.length : Nat) : Int) * k ≤ 1000 * k := Int.mul_le_mul_of_nonneg_right (by omega) (by omega)
    omega
  have few : k.toNat * xs.length ≤ 1000000 := Nat.mul_le_mul (show k.toNat ≤ 1000 by omega) hz
  have flen : (List.replicate k.toNat its).flatten.length ≤ sizeLine := by
    rw [PyProof.Rows.lm_len_rep_flat, len, sizeLine_eq]
    omega
  have c0 : (decide (k < -(2 ^ 63)) || decide (k ≥ 2 ^ 63)) = false := by rw [decide_eq_false (by omega), decide_eq_false (by omega)]; rfl
  have c1 : (its.toArray.isEmpty || k == 1) = false := by rw [full, Bool.false_or]; exact beq_eq_false_iff_ne.mpr k1
  have c4 : Builtin.Tuple.tupleTooMany (((its.toArray.size : Nat) : Int) * k) = false := by unfold Builtin.Tuple.tupleTooMany; rw [sizeLine_eq]; exact decide_eq_false (by omega)
  refine wpAny_binaryOp_repeat_ref (T := "tuple") (U := "int") (by decide) ⟨_, there, rfl⟩ (fun s' => typeIs_int s' k t) noFill_tuple_mul F.fills_int_mul F.slot_int_rmul repeat_tuple F.slot_int_index.lookup
    (call_meets F.slot_int_rmul (typeIs_int s k t) F.entry_int_rmul (F.args_int_rmul_2 _ _) (int_rmul_tuple k t l its.toArray n dd sl)
      ⟨there, rfl, ⟨_, there, rfl⟩, call_meets F.slot_tuple_mul ⟨_, there, rfl⟩ F.entry_tuple_mul (F.args_tuple_mul_2 _ _) (tuple_mulW l its.toArray n dd sl k t c0 c1 neg (by omega) c4 (by rw [size_rep, List.size_toArray]; exact flen)) ⟨there, ?_⟩⟩)
  rw [size_rep]
  refine ⟨.ref s.heap.objs.size, _, I.laid (t' := s.toks) (o := tupN (List.replicate k.toNat its).flatten (List.replicate k.toNat xs).flatten) (fun b ob q => Heap.get?_push_of_some _ q) (Nat.le_refl _) ?_, rfl, q _ _ (I.hok.fresh (Nat.le_refl _))⟩
  exact ⟨Heap.get?_push_size _ rfl, by rw [PyProof.Rows.lm_len_rep_flat, sizeLine_eq]; omega, _, r.rep k.toNat, IsTup.new _ _⟩
def repT : PyData → PyData → Option PyData
  | .tuple xs, .int k => if (!xs.isEmpty && decide (1 ≤ k ∧ k ≤ 1000 ∧ xs.length ≤ 1000)) = true then some (.tuple (List.replicate k.toNat xs).flatten) else none
  | _, _ => none
theorem repT_ok {K : PySem.W.Frag} : OpOk K (rRepU K) kF repT := by
  intro F H x y d e z Q sm hx hy ho hq
  unfold repT at ho
  split at ho
  · rename_i xs k
    split at ho
    · rename_i hc
      cases ho
      rw [Bool.and_eq_true] at hc
      obtain ⟨c1, c2⟩ := hc
      obtain ⟨c2, c3, c4⟩ := of_decide_eq_true c2
      obtain ⟨a, vs, rfl, h1, h2⟩ := hx.tup sm
      refine ⟨a, k, vs, rfl, hy.int, (sqn_mono sm h1).sq, fun z => ?_, c2, c3, by rw [dpa_length h2]; exact c4, fun k1 => ?_, fun p us hp => hq _ (upd F p (tupN us (List.replicate k.toNat vs).flatten)) _ (.new sm hp) (.tup (SqN.of upd_same) (dpa_mono (same_upd (sm.free hp)) (dpa_rep h2 k.toNat)))⟩
      · subst z
        cases h2
        cases c1
      · subst k1
        refine hq _ F H (.refl sm) ?_
        show Dq K F _ (.tuple (List.replicate 1 xs).flatten)
        simp only [List.replicate, List.flatten_cons, List.flatten_nil, List.append_nil]
        exact .tup h1 h2
    · cases ho
  · cases ho
theorem de_repT {X : Cx} {xc : Nat → Addr} {W : WX} {a b : Expr} {ga gb : Rho → RE PyData} {pos : Pos} (ha : DE X xc W kE a ga) (hb : DE X xc W kE b gb) : DE X xc W kF (.BinOp a .Mult b pos) (dBin repT ga gb) := de_bin (pe_op op_repU ha hb) kF_back repT_ok

/-! ### a new instance -/
theorem cx_none {P : Program} {w : World} {outer : List Env} {H : Hp} {s : Shared} {e : Value} {s' : Shared} (h : L2.CX P w outer H s (fun _ _ _ => False) e s') : False := by
  obtain ⟨_, _, _, _, _, _, _, _, _, _, _, _, z⟩ := h
  exact z
section
variable {X : Cx} {CX : CXT} {n : Nat} {f C : Addr} {fd : FuncData} {ps : List Str} {sp : Sp} {pins : List (Addr × Obj)} {σ : L2.St} {H : Hp} {s : Shared} {Q : VK} {us : List Value} {vs : List V}
/-- a def called somewhere below -/
theorem run_at {A : Around} {E : XK} (F : FnOk X.prog X.w X.K X.mg X.base CX n f fd ps sp) (hr : Room n A) (e0 : Env0 X.prog X.w X.K X.mg X.base A X.stack s H) (hb : Binds X.K fd ps []) (hx : PassesAt CX X σ E)
    (I : Inv X pins σ H s) (r : Vals vs us) (h : sp vs H Q E) : wpAny (model X.prog X.w) A (call (.ref f) us) (EP X pins σ Q) X.xe s := by
  have len : us.length = ps.length := by rw [← r.length]; exact F.len _ _ _ _ h
  have b := hb s us I.kIn (by rw [List.append_nil]; exact len)
  rw [List.append_nil] at b
  refine wpAny_call (codeAny_mono (F.run A X.stack s H ⟨us, []⟩ us vs Q E hr e0 b r h) fun r s' z => ?_)
  cases r with
  | error e => exact hx pins H s e s' I z
  | ok fl => cases fl with
    | ret u => exact I.after z
    | next => exact z.elim
    | brk => exact z.elim
    | cont => exact z.elim
def tMkW (C : Addr) (sp : Sp) (E : L2.St → XK) (t : TA) : TE := fun σ H Q => t σ H fun vs H1 => ∀ x dx, H1 x = none → H1 dx = none → dx ≠ x → sp (.ref x :: vs) (upd (upd H1 dx (.own x)) x (.ins C dx [])) (fun v H2 => v = .non ∧ Q (.ref x) H2) (E σ)
theorem run_mk {E : XK} (M : Mk X.K C f) (F : FnOk X.prog X.w X.K X.mg X.base CX n f fd ps sp) (hr : Room (n + 1) X.A) (hb : Binds X.K fd ps []) (hx : PassesAt CX X σ E) (I : Inv X pins σ H s) (r : Vals vs us)
    (h : ∀ x dx, H x = none → H dx = none → dx ≠ x → sp (.ref x :: vs) (upd (upd H dx (.own x)) x (.ins C dx [])) (fun v H2 => v = .non ∧ Q (.ref x) H2) E) : wpAny (model X.prog X.w) X.A (call (.ref C) us) (EP X pins σ Q) X.xe s := by
  have z := h (s.heap.objs.size + 1) s.heap.objs.size (I.hok.fresh (Nat.le_succ _)) (I.hok.fresh (Nat.le_refl _)) (Nat.ne_of_lt (Nat.lt_succ_self _))
  have J := Inv.made (C := C) I
  have r2 : Vals (V.ref (s.heap.objs.size + 1) :: vs) (Value.ref (s.heap.objs.size + 1) :: us) := .cons rfl r
  have len : (Value.ref (s.heap.objs.size + 1) :: us).length = ps.length := by rw [← r2.length]; exact F.len _ _ _ _ z
  have b := hb _ (Value.ref (s.heap.objs.size + 1) :: us) J.kIn (by rw [List.append_nil]; exact len)
  rw [List.append_nil] at b
  refine wpAny_call (make_map (f := f) I.kIn M.makes M.init (beq_iff_eq.mp M.fn) (codeAny_mono (F.run _ X.stack _ _ ⟨Value.ref (s.heap.objs.size + 1) :: us, []⟩ (Value.ref (s.heap.objs.size + 1) :: us) _ _ E (hr.make C us []) (J.env0.make C us []) b r2 z) fun r s' zz => ?_))
  cases r with
  | error e => exact hx pins _ _ e s' J zz
  | ok fl => cases fl with
    | ret u =>
      obtain ⟨v, H', J3, rv, ev, q3⟩ := J.after zz
      subst ev
      exact ⟨rv, ⟨V.ref (s.heap.objs.size + 1), H', J3, rfl, q3⟩⟩
    | next => exact zz.elim
    | brk => exact zz.elim
    | cont => exact zz.elim
theorem pe_mk {E : L2.St → XK} {x : Str} {e : Expr} {es : List Expr} {t : TA} {p pos : Pos} (M : Mk X.K C f) (F : FnOk X.prog X.w X.K X.mg X.base CX n f fd ps sp) (hr : Room (n + 1) X.A) (hg : Gl X x) (hm : X.mg x = some (.ref C)) (hb : Binds X.K fd ps []) (hx : ∀ σ, PassesAt CX X σ (E σ)) (ha : PA X (e :: es) t)
    (hdb : (x == ("__debug__" : Str)) = false := by decide) (he : starEach (e :: es) X.env = (false, eval e X.env) :: starEach es X.env := by rfl) (hpl : (backTo pos (starEach es X.env)).any (·.1) = false := by rfl) : PE X (.Call (.Name x p) (e :: es) [] pos) (tMkW C sp E t) :=
  ⟨fun pins s σ H Q I h => wpAny_Call_Name_kw (ld_glob I hg hm (PySem.W.callWith_K (h₀ := X.base) I.ok.mod.kin M.kp (thn (ha.run pos pins s σ H _ I h) fun us s1 ⟨vs, H1, I1, r, q⟩ => ⟨I1.kIn, run_mk M F hr hb (hx σ) I1 r q⟩) he hpl) hdb)⟩
end
/-- a: a new instance; its record is not yet frozen -/
def NewY (K : PySem.W.Frag) (H F2 H2 : Hp) (a l : Addr) (s : List PyData × Int) : Prop := ∃ C dx vs, YC K C ∧ H a = none ∧ H l = none ∧ a ≠ l ∧ F2 a = none ∧ F2 l = none ∧ H2 a = some (.ins C dx (yfs l s.2)) ∧ H2 l = some (.lst vs) ∧ DqAll K F2 vs s.1
/-- the promise of __init__ -/
def spI (K : PySem.W.Frag) (xc : Nat → Addr) (f : PyData → RE (List PyData)) : Sp := fun vs H Q E => ∃ (F : Hp) (x C dx : Addr) (v : V) (d : PyData), vs = [.ref x, v] ∧ Same F H ∧ YC K C ∧ H x = some (.ins C dx []) ∧ F x = none ∧ Dq K F v d ∧ f d ≠ .bad ∧
  (∀ st, f d = .ok st → ∀ F3 H3 l ws, Fz F H F3 H3 → H l = none → F3 l = none → H3 l = some (.lst ws) → DqAll K F3 ws st → Q .non (upd H3 x (.ins C dx (yfs l 0)))) ∧
  (∀ y, f d = .ex y → ∀ cls dd F2 H2, Fz F H F2 H2 → XOk K xc F2 H2 y cls dd → E cls dd H2)
/-- what an expression that makes an instance is worth -/
def yC (K : PySem.W.Frag) (xc : Nat → Addr) (W : WX) (g : Rho → RE (List PyData × Int)) : TE := fun σ H Q => ∃ F0 H0 ρ F, SRel K F0 H0 ρ σ F H ∧ g ρ ≠ .bad ∧
  (∀ s, g ρ = .ok s → ∀ a l F2 H2, Fz F H F2 H2 → NewY K H F2 H2 a l s → Q (.ref a) H2) ∧
  (∀ x, g ρ = .ex x → ∀ cls dd F2 H2, Fz F H F2 H2 → XOk K xc F2 H2 x cls dd → W cls dd σ H2)
abbrev DY (X : Cx) (xc : Nat → Addr) (W : WX) (e : Expr) (g : Rho → RE (List PyData × Int)) : Prop := PE X e (yC X.K xc W g)
theorem yC.go {K : PySem.W.Frag} {xc : Nat → Addr} {W : WX} {g : Rho → RE (List PyData × Int)} {β : Type} {f : List PyData × Int → RE β} {F0 H0 F H : Hp} {ρ : Rho} {σ : L2.St} {Q : VK} (r : SRel K F0 H0 ρ σ F H) (hb : (g ρ).bind f ≠ .bad)
    (hx : ∀ x, (g ρ).bind f = .ex x → ∀ cls dd F2 H2, Fz F H F2 H2 → XOk K xc F2 H2 x cls dd → W cls dd σ H2)
    (h : ∀ s, g ρ = .ok s → ∀ a l F2 H2, Fz F H F2 H2 → SRel K F0 H0 ρ σ F2 H2 → NewY K H F2 H2 a l s → f s ≠ .bad → (∀ x, f s = .ex x → ∀ cls dd F3 H3, Fz F2 H2 F3 H3 → XOk K xc F3 H3 x cls dd → W cls dd σ H3) → Q (.ref a) H2) : yC K xc W g σ H Q := by
  refine ⟨F0, H0, ρ, F, r, fun z => hb (by rw [z]; rfl), fun s e a l F2 H2 x kk => ?_, fun x e cls dd F2 H2 z q => hx x (by rw [e]; rfl) cls dd F2 H2 z q⟩
  rw [e] at hb hx
  exact h s e a l F2 H2 x (r.step x) kk hb fun y ey cls dd F3 H3 z q => hx y ey cls dd F3 H3 (x.trans z) q
def dMk (f : PyData → RE (List PyData)) (g : Rho → RE PyData) : Rho → RE (List PyData × Int) := fun ρ => (g ρ).bind fun d => (f d).bind fun st => .ok (st, 0)
section
variable {X : Cx} {xc : Nat → Addr} {W : WX} {e : Expr} {g : Rho → RE PyData} {gy : Rho → RE (List PyData × Int)} {C f : Addr} {fd : FuncData} {ps : List Str} {n i : Nat} {p pos : Pos} {st : Stmt}
theorem dy_mk {fi : PyData → RE (List PyData)} (T : YT X.K X.mg C) (M : Mk X.K C f) (F : FnOk X.prog X.w X.K X.mg X.base (L2.CX X.prog X.w) n f fd ps (spI X.K xc fi)) (hr : Room (n + 1) X.A) (hg : Gl X "Yard") (hb : Binds X.K fd ps []) (tk : Takes X W) (ha : DE X xc W kF e g)
    (he : starEach [e] X.env = (false, eval e X.env) :: starEach [] X.env := by rfl) : DY X xc W (.Call (.Name "Yard" p) [e] [] pos) (dMk fi g) := PE.imp (pe_mk M F hr hg T.g hb (fun σ => passAt tk σ) (pa_cons ha pa_nil he) (by decide) he) fun σ H Q ⟨F0, H0, ρ, F, r, hb, hq, hx⟩ => by
  refine eC.go r hb hx fun d ed v F1 H1 x1 r1 k1 hb1 hx1 => ?_
  intro x dx nx ndx nex
  have s0 : Same H1 (upd (upd H1 dx (.own x)) x (.ins C dx [])) := fun b o e => by rw [upd_ne (ne_of_none e nx), upd_ne (ne_of_none e ndx)]; exact e
  have fz0 : Fz F1 H1 F1 (upd (upd H1 dx (.own x)) x (.ins C dx [])) := ⟨.refl _, s0, r1.same.trans s0, fun _ _ q => .inl q⟩
  refine ⟨F1, x, C, dx, v, d, rfl, fz0.fh, T.yc, upd_same, r1.same.free nx, k1, fun z => hb1 (by rw [z]; rfl), fun st es F3 H3 l ws fz nl fl hl hd => ⟨rfl, ?_⟩, fun y ey cls dd F2 H2 fz xo => hx1 y (by rw [ey]; rfl) cls dd F2 H2 (fz0.trans fz) xo⟩
  have nxl : x ≠ l := fun w => by rw [← w, upd_same] at nl; cases nl
  have nl1 : H1 l = none := by
    cases q : H1 l with
    | none => rfl
    | some o => rw [s0 _ _ q] at nl; cases nl
  have f3x : F3 x = none := by
    cases q : F3 x with
    | none => rfl
    | some o =>
      rcases fz.nw x o q with w | w
      · rw [r1.same.free nx] at w; cases w
      · rw [upd_same] at w; cases w
  have fz1 := fz0.trans fz
  refine hq (st, 0) ?_ x l F3 _ (x1.trans ⟨fz1.ff, fun b o e => by rw [upd_ne (ne_of_none e nx)]; exact fz1.hh _ _ e, fun b o e => by rw [upd_ne (ne_of_none e f3x)]; exact fz1.fh _ _ e, fz1.nw⟩) ⟨C, dx, ws, T.yc, x1.hh.free nx, x1.hh.free nl1, nxl, f3x, fl, upd_same, by rw [upd_ne nxl.symm]; exact hl, hd⟩
  show (g ρ).bind _ = _
  rw [ed, R.bind_ok, es]; rfl
theorem SRel.none1 {K : PySem.W.Frag} {F H : Hp} (sm : Same F H) : SRel K F H [none] [none] F H := by
  have h : ∀ (i : Nat) (sv : SV), ([none] : Rho)[i]? ≠ some (some sv) := by
    intro i sv e
    cases i with
    | zero => cases e
    | succ i => cases e
  exact ⟨.refl sm, rfl, fun i sv e => absurd e (h i sv), fun i j ds es _ e => absurd e (h i _), ⟨fun i j t ds a b cs e => absurd e (h i _), fun i j t ds a b cs e => absurd e (h i _), fun i j t u a b cs es _ e => absurd e (h i _)⟩⟩
/-- its record is frozen -/
theorem NewY.frz {K : PySem.W.Frag} {F H F2 H2 : Hp} {a l : Addr} {s : List PyData × Int} (x : Fz F H F2 H2) (h : NewY K H F2 H2 a l s) (p : Bool) : ∃ F3, Fz F H F3 H2 ∧ Same F2 F3 ∧ F3 l = none ∧ CpOk K F3 H2 a [l] (.yd p s.1 s.2) := by
  obtain ⟨C, dx, vs, hC, na, nl, nal, fa, fl, ha, hl, hd⟩ := h
  exact ⟨upd F2 a (.ins C dx (yfs l s.2)), x.freeze na fa ha, same_upd fa, by rw [upd_ne nal.symm]; exact fl, C, dx, l, vs, hC, rfl, ha, upd_same, hl, dpa_mono (same_upd fa) hd⟩
def dSetMk (i : Nat) (g : Rho → RE (List PyData × Int)) : Rho → RS := stE g fun s ρ => .ok (.nx (ρ.set i (some (.cp (.yd false s.1 s.2)))))
theorem ds_setMk (h : PS X st (tAsg (yC X.K xc W gy) (gName i))) : DS1 X xc W st (dSetMk i gy) := PS.imp h fun D σ H ⟨F0, H0, ρ, F, r, hg⟩ => by
  have eq : ∀ z, gy ρ = z → dSetMk i gy ρ = (match z with | .ok s => .ok (.nx (ρ.set i (some (.cp (.yd false s.1 s.2))))) | .ex x => .ex (x, ρ) | .bad => .bad) := fun z e => by unfold dSetMk stE; rw [e]; cases z <;> rfl
  refine ⟨F0, H0, ρ, F, r, fun z => hg.nb (eq _ z), fun s es a l F2 H2 x ny => ?_, fun x ex cls dd F2 H2 z xo => ?_⟩
  · rw [eq _ es] at hg
    obtain ⟨F3, fz, s3, fl, gc⟩ := ny.frz x false
    obtain ⟨C', dx', vs', _, na, nl, _⟩ := id ny
    exact hg.nx _ rfl _ F3 H2 fz.ff (r.setC (cs := [l]) fz (fun y hy => by rw [List.mem_singleton.mp hy]; exact ⟨nl, fl⟩) gc trivial)
  · rw [eq _ ex] at hg
    exact hg.ex x ρ rfl cls dd σ F2 H2 z.ff (r.step z) xo
/-- a method of a new instance that is then let go -/
def dTmpM (f : FM) (g : Rho → RE (List PyData × Int)) (gs : Rho → RE (List PyData)) : Rho → RE PyData := fun ρ => (g ρ).bind fun s => (gs ρ).bind fun ds => match f s ds with
  | .ok (d, _) => .ok d
  | .ex (x, _) => .ex x
  | .bad => .bad
theorem de_tmpM {ks : List Bool} {gs : Rho → RE (List PyData)} {o : Expr} {es : List Expr} {m : Str} {fm : FM} {ap cp : Pos} {pl : Sem Bool} (T : YT X.K X.mg C) (ho : DY X xc W o gy) (hm : Meth X.K C m f) (F : FnOk X.prog X.w X.K X.mg X.base (L2.CX X.prog X.w) n f fd ps (spM X.K xc ks fm)) (hr : Room n X.A) (hb : Binds X.K fd ps []) (tk : Takes X W) (ha : DB X xc W ks (e :: es) gs) (hka : ∀ b ∈ ks, b = true) (hno : (m == ("steps" : Str)) = false := by decide +kernel) (hno2 : (m == ("kept" : Str)) = false := by decide +kernel)
    (h1 : starEach (e :: es) X.env = (false, eval e X.env) :: starEach es X.env := by rfl) (h2 : (backTo cp (starEach es X.env)).any (·.1) = false := by rfl)
    (h3 : eval (.Call (.Attribute o m ap) (e :: es) [] cp) X.env = (do let ov ← eval o X.env; standAt ap.atName; let (f, first) ← holding [ov] (getMethod ov m pl); callWith cp f first (backTo cp (starEach (e :: es) X.env)) (backToKw cp (keywordEach [] X.env))) := by rfl) :
    DE X xc W kF (.Call (.Attribute o m ap) (e :: es) [] cp) (dTmpM fm gy gs) := PE.imp (pe_mw ho T.cl hm F hr hb (fun σ => passAt tk σ) ha h1 h2 h3) fun σ H Q ⟨F0, H0, ρ, F, r, hb, hq, hx⟩ => by
  refine yC.go r hb hx fun s es a l F1 H1 x1 r1 ny hb1 hx1 => ?_
  obtain ⟨F2, x2, s2, fl2, gc2⟩ := ny.frz x1 false
  obtain ⟨C', dx, vs, hC, na, nl, nal, fa, fl, ha, hl, hd⟩ := id ny
  have := T.yc.uq hC
  subst this
  refine ⟨a, dx, _, rfl, ha, yfs_no l s.2 hno hno2, ?_⟩
  have r2 : SRel X.K F0 H0 ρ σ F2 H1 := r.step x2
  have fz12 : ∀ {F3 H3 : Hp}, Fz F2 H1 F3 H3 → Fz F H F3 H3 := fun z => x2.trans z
  have eD : dTmpM fm gy gs ρ = (gs ρ).bind fun ds => match fm s ds with | .ok (d, _) => .ok d | .ex (x, _) => .ex x | .bad => .bad := by
    show (gy ρ).bind _ = _
    rw [es]; rfl
  rw [eD] at hb hq hx
  refine bC.go r2 hb1 (fun y ey cls dd F3 H3 z xo => hx y ey cls dd F3 H3 (x2.trans z) xo) fun ds eds us F3 H3 x3 r3 ka hb3 hx3 => ?_
  -- the new instance as the one slot of a frame
  have q1 : SRel X.K F H [some (.cp (.yd false s.1 s.2))] [some (.ref a)] F2 H1 := by
    have z : SRel X.K F H [none] [none] F H := .none1 r.same
    exact z.setC (i := 0) (cs := [l]) x2 (fun y hy => by rw [List.mem_singleton.mp hy]; exact ⟨nl, fl2⟩) gc2 trivial
  have q3 := q1.step x3
  obtain ⟨a', l', C', dx', ea', hC', h1', yok, fin⟩ := q3.callM (i := 0) rfl
  cases ea'
  refine ⟨stripI a F3, a, l', us, s.1, s.2, ds, rfl, strip_le.trans r3.same, yok, fun x C dx fs hh => strip_un hh, aok_strip hka ka, fun z => hb3 (by rw [z]), fun d st' ed v F4 H4 ys dv => ?_, fun y st' ey cls dd F4 H4 ys xo => ?_⟩
  · obtain ⟨F5, s5, s6, r5⟩ := fin F4 H4 st' ys
    exact hq d (by rw [eds, R.bind_ok, ed]) v F5 H4 r5.fz (dp_mono s6 dv)
  · obtain ⟨F5, s5, s6, r5⟩ := fin F4 H4 st' ys
    exact hx y (by rw [eds, R.bind_ok, ey]) cls dd F5 H4 r5.fz (xo.mono s6)
end
end VS
end
section
set_option Elab.async false
set_option linter.all false
set_option maxRecDepth 100000
set_option autoImplicit false
namespace VS
open PySem PySem.Spec PyProof.Rows L2
/-! ### __init__ and duplicate -/
theorem putF_0 (l : Addr) : putF ("kept" : Str) (V.int 0) (putF ("steps" : Str) (V.ref l) []) = yfs l 0 := by
  have e : ¬ (("steps" : Str) = ("kept" : Str)) := by decide +kernel
  show (if ("steps" : Str) = "kept" then _ else _) = _
  rw [if_neg e]
  rfl
theorem putF_1 (l l2 : Addr) (k : Int) : putF ("steps" : Str) (V.ref l2) (yfs l k) = yfs l2 k := by
  show (if ("steps" : Str) = "steps" then _ else _) = _
  rw [if_pos rfl]
  rfl
/-- what __init__ is worth: c: whether it raises the exception numbered n -/
def initD (c : PyData → RE Bool) (n : Nat) (ge : PyData → RE PyData) : PyData → RE (List PyData) := fun d => (c d).bind fun b => cond b (.ex ⟨n, none⟩) ((ge d).bind fun z => match z with
  | .list st => .ok st
  | _ => .bad)
section
variable {P : Program} {w : World} {K : PySem.W.Frag} {mg : Str → Option Value} {base : Heap} {xc : Nat → Addr} {x qual : Str} {st : Stmt} {f : Addr} {fd : FuncData} {N ps : List Str} {m n : Nat} {g1 : Rho → RS} {g2 : Rho → RE PyData} {c : PyData → RE Bool} {ge : PyData → RE PyData} {C : Addr}
theorem fn_okI (F : Fun K x qual st f fd) (S : FnScope N ps (defScope st)) (hps : ps.length = 2) (hN : N.length = 2) (T : YT K mg C)
    (hc : ∀ a d, g1 [some (.ob a), some (.fr d)] = (match c d with | .ok b => cond b (.ex (⟨n, none⟩, [some (.ob a), some (.fr d)])) (.ok (.nx [some (.ob a), some (.fr d)])) | .ex y => .ex (y, [some (.ob a), some (.fr d)]) | .bad => .bad)) (he : ∀ a d, g2 [some (.ob a), some (.fr d)] = ge d)
    (body : ∀ (cdv : Value) (A : Around) (outer : List Env) (s : Shared) (H : Hp) (E : XK), Room (m + 1) (cxOf (L2.CX P w) P w K mg base N qual (defScope st) f cdv A outer s H E).A → Takes (cxOf (L2.CX P w) P w K mg base N qual (defScope st) f cdv A outer s H E) (fun cls d _ H => E cls d H) →
      PSs (cxOf (L2.CX P w) P w K mg base N qual (defScope st) f cdv A outer s H E) (defBody st) (tSeq (sC K xc (fun cls d _ H => E cls d H) g1) (tSeq (sFld K (tVar 0) (eC K xc (fun cls d _ H => E cls d H) kN g2) "steps") (sFld K (tVar 0) (tC (.int 0)) "kept")))) :
    FnOk P w K mg base (L2.CX P w) (m + 2) f fd ps (spI K xc (initD c n ge)) := by
  refine F.okX S (fun vs H Q E h => ?_) (fun cdv A outer s H vs Q E hr h => ?_)
  · obtain ⟨F, x, C, dx, v, d, rfl, _⟩ := h
    rw [hps]; rfl
  · obtain ⟨Ff, a, D, dx, v, d, rfl, sm, hD, ha, fa, dv, hb, hq, hx⟩ := h
    have := T.yc.uq hD
    subst this
    refine ⟨_, body cdv A outer s H E hr (takes_of rfl rfl rfl rfl), ?_⟩
    have hst : start N [V.ref a, v] = [some (.ref a), some v] := by
      show [V.ref a, v].map some ++ List.replicate (N.length - 2) none = _
      rw [hN]; rfl
    rw [hst]
    have r : SRel K Ff H [some (.ob a), some (.fr d)] [some (.ref a), some v] Ff H := by
      have sl : ∀ (i : Nat) (sv : SV), ([some (.ob a), some (.fr d)] : Rho)[i]? = some (some sv) → SlotOk K Ff H Ff H sv (([some (.ref a), some v] : L2.St)[i]?) ∧ mutB sv = false := fun i sv e => by
        match i, e with
        | 0, e => cases e; exact ⟨rfl, rfl⟩
        | 1, e => cases e; exact ⟨⟨v, rfl, dv⟩, rfl⟩
      refine ⟨.refl sm, rfl, fun i sv e => (sl i sv e).1, fun i j ds es _ e => ?_, ⟨fun i j t ds a b cs e => ?_, fun i j t ds a b cs e => ?_, fun i j t u a b cs es _ e => ?_⟩⟩
      all_goals (have z := (sl i _ e).2; cases z)
    have hw := hc a d
    cases q : c d with
    | bad => exact absurd (by unfold initD; rw [q]; rfl) hb
    | ex y =>
      rw [q] at hw
      dsimp only at hw
      refine ⟨Ff, H, _, Ff, r, ?_⟩
      rw [hw]
      exact ⟨(fun z => nomatch z), (fun _ z => nomatch z), (fun _ z => nomatch z), fun y' ρ' e cls dd σ' F' H' _ r' xo => by cases e; exact hx y (by unfold initD; rw [q]; rfl) cls dd F' H' r'.fz xo, (fun _ _ z => nomatch z)⟩
    | ok b =>
      rw [q] at hw
      dsimp only at hw
      cases b with
      | true =>
        refine ⟨Ff, H, _, Ff, r, ?_⟩
        rw [hw]
        exact ⟨(fun z => nomatch z), (fun _ z => nomatch z), (fun _ z => nomatch z), fun y' ρ' e cls dd σ' F' H' _ r' xo => by cases e; exact hx _ (by unfold initD; rw [q]; rfl) cls dd F' H' r'.fz xo, (fun _ _ z => nomatch z)⟩
      | false =>
        have eD : initD c n ge d = (ge d).bind fun z => match z with | .list st => .ok st | _ => .bad := by unfold initD; rw [q]; rfl
        rw [eD] at hb hq hx
        refine ⟨Ff, H, _, Ff, r, ?_⟩
        rw [hw]
        refine ⟨(fun z => nomatch z), fun ρ' e σ' F' H' s1 r' => ?_, (fun _ z => nomatch z), (fun _ _ z => nomatch z), (fun _ _ z => nomatch z)⟩
        cases e
        refine ⟨Ff, H, _, F', r', fun z => hb (by rw [← he a d, z]; rfl), fun z ez v2 F2 H2 x2 kk => ?_, fun y ey cls dd F2 H2 x2 xo => hx y (by rw [← he a d, ey]; rfl) cls dd F2 H2 (r'.fz.trans x2) xo⟩
        rw [he a d] at ez
        rw [ez] at hq
        obtain ⟨l, ws, ds, rfl, rfl, nl, fl, hl, hdd⟩ := kk
        have r2 := r'.step x2
        have ex : σ'[0]? = some (some (.ref a)) := r'.sl 0 _ rfl
        have hx2 : H2 a = some (.ins C dx []) := r2.fz.hh _ _ ha
        refine ⟨.ref a, ex, a, C, dx, [], rfl, hx2, T.cl, T.nS, by decide, ?_⟩
        refine ⟨.ref a, ex, a, C, dx, _, rfl, upd_same, T.cl, T.nK, by show 1 < 1000; decide, ?_⟩
        have z := hq ds rfl F2 H2 l ws r2.fz (r'.fz.hh.free nl) fl hl hdd
        show Q .non (upd (upd H2 a _) a (.ins C dx (putF ("kept" : Str) (V.int 0) (putF ("steps" : Str) (V.ref l) []))))
        rw [upd_upd, putF_0]
        exact z
end
/-- what duplicate promises -/
def spDup (K : PySem.W.Frag) (xc : Nat → Addr) (f : (List PyData × Int) → RE (List PyData × Int)) : Sp := fun vs H Q E => ∃ (F : Hp) (a : Addr) (st : List PyData) (k : Int), vs = [.ref a] ∧ Same F H ∧ YRd K F H a st k ∧ f (st, k) ≠ .bad ∧
  (∀ s, f (st, k) = .ok s → ∀ a' l' F2 H2, Fz F H F2 H2 → NewY K H F2 H2 a' l' s → Q (.ref a') H2) ∧
  (∀ x, f (st, k) = .ex x → ∀ cls dd F2 H2, Fz F H F2 H2 → XOk K xc F2 H2 x cls dd → E cls dd H2)
def dupD (gy : Rho → RE (List PyData × Int)) (ge : Rho → RE PyData) : (List PyData × Int) → RE (List PyData × Int) := fun s => (gy [some (.pr (.sy s.1 s.2)), none]).bind fun s' => (ge [some (.pr (.sy s.1 s.2)), none]).bind fun d => match d with
  | .list st => .ok (st, s'.2)
  | _ => .bad
section
variable {P : Program} {w : World} {K : PySem.W.Frag} {mg : Str → Option Value} {base : Heap} {xc : Nat → Addr} {x qual : Str} {st : Stmt} {f : Addr} {fd : FuncData} {N ps : List Str} {m : Nat} {gy : Rho → RE (List PyData × Int)} {ge : Rho → RE PyData} {C : Addr}
theorem fn_okDup (F : Fun K x qual st f fd) (S : FnScope N ps (defScope st)) (hps : ps.length = 1) (hN : N.length = 2) (T : YT K mg C)
    (body : ∀ (cdv : Value) (A : Around) (outer : List Env) (s : Shared) (H : Hp) (E : XK), Room (m + 1) (cxOf (L2.CX P w) P w K mg base N qual (defScope st) f cdv A outer s H E).A → Takes (cxOf (L2.CX P w) P w K mg base N qual (defScope st) f cdv A outer s H E) (fun cls d _ H => E cls d H) →
      PSs (cxOf (L2.CX P w) P w K mg base N qual (defScope st) f cdv A outer s H E) (defBody st) (tSeq (tAsg (yC K xc (fun cls d _ H => E cls d H) gy) (gName 1)) (tSeq (sFld K (tVar 1) (eC K xc (fun cls d _ H => E cls d H) kN ge) "steps") (tRet (tVar 1))))) :
    FnOk P w K mg base (L2.CX P w) (m + 2) f fd ps (spDup K xc (dupD gy ge)) := by
  refine F.okX S (fun vs H Q E h => ?_) (fun cdv A outer s H vs Q E hr h => ?_)
  · obtain ⟨F, a, st, k, rfl, _⟩ := h
    rw [hps]; rfl
  · obtain ⟨Ff, a, ss, k, rfl, sm, ⟨D, dx, l, us, hD, hA, hl, hd⟩, hb, hq, hx⟩ := h
    have := T.yc.uq hD
    subst this
    refine ⟨_, body cdv A outer s H E hr (takes_of rfl rfl rfl rfl), ?_⟩
    have hst : start N [V.ref a] = [some (.ref a), none] := by
      show [V.ref a].map some ++ List.replicate (N.length - 1) none = _
      rw [hN]; rfl
    rw [hst]
    have r : SRel K Ff H [some (.pr (.sy ss k)), none] [some (.ref a), none] Ff H := by
      have sl : ∀ (i : Nat) (sv : SV), ([some (.pr (.sy ss k)), none] : Rho)[i]? = some (some sv) → SlotOk K Ff H Ff H sv (([some (.ref a), none] : L2.St)[i]?) ∧ mutB sv = false := fun i sv e => by
        match i, e with
        | 0, e => cases e; exact ⟨⟨_, rfl, a, C, dx, l, us, rfl, hD, hA, hl, hd⟩, rfl⟩
        | 1, e => cases e
      refine ⟨.refl sm, rfl, fun i sv e => (sl i sv e).1, fun i j ds es _ e => ?_, ⟨fun i j t ds a b cs e => ?_, fun i j t ds a b cs e => ?_, fun i j t u a b cs es _ e => ?_⟩⟩
      all_goals (have z := (sl i _ e).2; cases z)
    show yC K xc (fun cls d _ H => E cls d H) gy [some (.ref a), none] H (fun v H1 => sFld K (tVar 1) (eC K xc (fun cls d _ H => E cls d H) kN ge) "steps" { nx := fun σ H => tRet (tVar 1) { nx := fun _ H' => Q .non H', rt := Q } σ H, rt := Q } [some (.ref a), some v] H1)
    refine yC.go (W := fun cls d _ H => E cls d H) (xc := xc) (f := fun s' => (ge [some (.pr (.sy ss k)), none]).bind fun d => match d with | .list st => .ok (st, s'.2) | _ => .bad) r hb hx fun s' es a' l' F1 H1 x1 r1 ny hb1 hx1 => ?_
    show sFld K (tVar 1) (eC K xc (fun cls d _ H => E cls d H) kN ge) "steps" _ [some (.ref a), some (.ref a')] H1
    have r2 : SRel K Ff H [some (.pr (.sy ss k)), none] [some (.ref a), some (.ref a')] F1 H1 := r1.setN (i := 1) (o := some (.ref a'))
    refine eC.go (W := fun cls d _ H => E cls d H) (xc := xc) (f := fun d => match d with | .list st => R.ok (st, s'.2) | _ => .bad) r2 hb1 hx1 fun d ed v2 F2 H2 x2 r3 kk hb2 hx2 => ?_
    obtain ⟨l2, ws, ds, rfl, rfl, nl, fl, hl2, hdd⟩ := kk
    obtain ⟨C', dx', vs', hC', na, nl', nal, fa, fl', ha', hl', hd'⟩ := ny
    have := T.yc.uq hC'
    subst this
    have hA2 := x2.hh _ _ ha'
    have n2 : a' ≠ l2 := fun z => by rw [z, nl] at ha'; cases ha'
    have fa2 : F2 a' = none := by
      cases q : F2 a' with
      | none => rfl
      | some o =>
        rcases x2.nw a' o q with w | w
        · rw [fa] at w; cases w
        · rw [ha'] at w; cases w
    refine ⟨.ref a', rfl, a', C, dx', _, rfl, hA2, T.cl, T.nS, by show 2 < 1000; decide, .ref a', rfl, ?_⟩
    show Q (.ref a') (upd H2 a' (.ins C dx' (putF ("steps" : Str) (V.ref l2) (yfs l' s'.2))))
    rw [putF_1]
    have x12 := x1.trans x2
    refine hq (ds, s'.2) ?_ a' l2 F2 _ ⟨x12.ff, fun b o e => by rw [upd_ne (ne_of_none e na)]; exact x12.hh _ _ e, fun b o e => by rw [upd_ne (ne_of_none e fa2)]; exact x12.fh _ _ e, x12.nw⟩ ⟨C, dx', ws, hC', na, x1.hh.free nl, n2, fa2, fl, upd_same, by rw [upd_ne n2.symm]; exact hl2, hdd⟩
    unfold dupD
    rw [es, R.bind_ok, ed]; rfl
end
def dDup (f : (List PyData × Int) → RE (List PyData × Int)) (i : Nat) : Rho → RE (List PyData × Int) := fun ρ => match getY ρ[i]? with
  | some s => f s
  | none => .bad
section
variable {X : Cx} {xc : Nat → Addr} {W : WX} {o : Expr} {C f : Addr} {fd : FuncData} {ps : List Str} {n i : Nat} {ap cp : Pos} {m : Str} {fdp : (List PyData × Int) → RE (List PyData × Int)}
theorem dup_imp {σ : L2.St} {H : Hp} {Q : VK} {K : PySem.W.Frag} (h : yC K xc W (dDup fdp i) σ H Q) : ∃ a l C dx k, σ[i]? = some (some (.ref a)) ∧ YC K C ∧ H a = some (.ins C dx (yfs l k)) ∧ spDup K xc fdp [.ref a] H Q (WE W σ) := by
  obtain ⟨F0, H0, ρ, F, r, hb, hq, hx⟩ := h
  unfold dDup at hb hq hx
  cases q : getY ρ[i]? with
  | none => rw [q] at hb; exact absurd rfl hb
  | some s =>
    obtain ⟨st, k⟩ := s
    rw [q] at hb hq hx
    obtain ⟨a, C, dx, l, us, ea, hC, h1, h2, h3⟩ := r.yard q
    exact ⟨a, l, C, dx, k, ea, hC, h1, F, a, st, k, rfl, r.same, ⟨C, dx, l, us, hC, h1, h2, h3⟩, hb, hq, hx⟩
theorem dy_dup {pl : Sem Bool} (T : YT X.K X.mg C) (ho : PE X o (tVar i)) (hm : Meth X.K C m f) (F : FnOk X.prog X.w X.K X.mg X.base (L2.CX X.prog X.w) n f fd ps (spDup X.K xc fdp)) (hr : Room n X.A) (hb : Binds X.K fd ps []) (tk : Takes X W) (hno : (m == ("steps" : Str)) = false := by decide +kernel) (hno2 : (m == ("kept" : Str)) = false := by decide +kernel)
    (h3 : eval (.Call (.Attribute o m ap) [] [] cp) X.env = (do let ov ← eval o X.env; standAt ap.atName; let (f, first) ← holding [ov] (getMethod ov m pl); callWith cp f first (backTo cp (starEach [] X.env)) (backToKw cp (keywordEach [] X.env))) := by rfl) :
    DY X xc W (.Call (.Attribute o m ap) [] [] cp) (dDup fdp i) := PE.imp (pe_mw0 ho T.cl hm F hr hb (fun σ => passAt tk σ) h3) fun σ H Q q => by
  obtain ⟨a, l, D, dx, k, ea, hD, hA, q⟩ := dup_imp q
  have := T.yc.uq hD
  subst this
  exact ⟨_, ea, a, dx, _, rfl, hA, yfs_no l k hno hno2, q⟩
end
end VS
end
section
set_option Elab.async false
set_option linter.all false
set_option maxRecDepth 100000
set_option autoImplicit false
namespace VS
open PySem PySem.Spec PyProof.Rows L2
theorem fn_isM {P : Program} {w : World} {K : PySem.W.Frag} {mg : Str → Option Value} {base : Heap} {xc : Nat → Addr} {x qual : Str} {st : Stmt} {f : Addr} {fd : FuncData} {N ps : List Str} {m n : Nat} {ks : List Bool} {g : Rho → RS} (F : Fun K x qual st f fd) (S : FnScope N ps (defScope st)) (hk : ks.length + 1 = ps.length) (hka : ∀ b ∈ ks, b = true) (hn : N.length = n)
    (body : ∀ (cdv : Value) (A : Around) (outer : List Env) (s : Shared) (H : Hp) (E : XK), Room (m + 1) (cxOf (L2.CX P w) P w K mg base N qual (defScope st) f cdv A outer s H E).A → (cxOf (L2.CX P w) P w K mg base N qual (defScope st) f cdv A outer s H E).A.units + 65 < cLine →
      Takes (cxOf (L2.CX P w) P w K mg base N qual (defScope st) f cdv A outer s H E) (fun cls d _ H => E cls d H) →
      PassesOwn (model P w) (cxOf (L2.CX P w) P w K mg base N qual (defScope st) f cdv A outer s H E).A (cxOf (L2.CX P w) P w K mg base N qual (defScope st) f cdv A outer s H E).env (cxOf (L2.CX P w) P w K mg base N qual (defScope st) f cdv A outer s H E).xe →
      DS (cxOf (L2.CX P w) P w K mg base N qual (defScope st) f cdv A outer s H E) xc (fun cls d _ H => E cls d H) (defBody st) g) :
    FnOk P w K mg base (L2.CX P w) (m + 2) f fd ps (spM K xc ks (fnM n ks g)) :=
  fn_okM F S hk hka hn fun cdv A outer s H E hr => body cdv A outer s H E hr (Room.u65 (n := m) hr) (takes_of rfl rfl rfl rfl) (passes_of rfl)
theorem fn_isR {P : Program} {w : World} {K : PySem.W.Frag} {mg : Str → Option Value} {base : Heap} {xc : Nat → Addr} {x qual : Str} {st : Stmt} {f : Addr} {fd : FuncData} {N ps : List Str} {m n : Nat} {ks : List Bool} {g : Rho → RS} (F : Fun K x qual st f fd) (S : FnScope N ps (defScope st)) (hk : ks.length + 1 = ps.length) (hn : N.length = n)
    (body : ∀ (cdv : Value) (A : Around) (outer : List Env) (s : Shared) (H : Hp) (E : XK), Room (m + 1) (cxOf (L2.CX P w) P w K mg base N qual (defScope st) f cdv A outer s H E).A → (cxOf (L2.CX P w) P w K mg base N qual (defScope st) f cdv A outer s H E).A.units + 65 < cLine →
      Takes (cxOf (L2.CX P w) P w K mg base N qual (defScope st) f cdv A outer s H E) (fun cls d _ H => E cls d H) →
      PassesOwn (model P w) (cxOf (L2.CX P w) P w K mg base N qual (defScope st) f cdv A outer s H E).A (cxOf (L2.CX P w) P w K mg base N qual (defScope st) f cdv A outer s H E).env (cxOf (L2.CX P w) P w K mg base N qual (defScope st) f cdv A outer s H E).xe →
      DS (cxOf (L2.CX P w) P w K mg base N qual (defScope st) f cdv A outer s H E) xc (fun cls d _ H => E cls d H) (defBody st) g) :
    FnOk P w K mg base (L2.CX P w) (m + 2) f fd ps (spR K xc ks (fnR n ks g)) :=
  fn_okR F S hk hn fun cdv A outer s H E hr => body cdv A outer s H E hr (Room.u65 (n := m) hr) (takes_of rfl rfl rfl rfl) (passes_of rfl)
/-- a method of the text's class -/
structure MtT (K : PySem.W.Frag) (C : Addr) (x qual : Str) (st : Stmt) (f : Addr) (fd : FuncData) (ps : List Str) : Prop where
  F : Fun K x qual st f fd
  b : Binds K fd ps []
  m : Meth K C x f
structure InT (K : PySem.W.Frag) (C : Addr) (x qual : Str) (st : Stmt) (f : Addr) (fd : FuncData) (ps : List Str) : Prop where
  F : Fun K x qual st f fd
  b : Binds K fd ps []
  m : Mk K C f
theorem steady_retY {i : Nat} {g : Addr → Addr → Exc → Rho → RE PyData} (h : ∀ (a dd : Addr) (x : Exc) (ρ : Rho), g a dd x (ρ.set i (some (exS a dd x))) = g 0 0 x (ρ.set i (some (exS 0 0 x)))) : Steady i (fun a dd y => dRetY (upE (g a dd y))) := fun a dd x ρ => by
  have e : ∀ b c, dRetY (upE (g b c x)) (ρ.set i (some (exS b c x))) = (match g 0 0 x (ρ.set i (some (exS 0 0 x))) with | .ok d => .ok (.ry d (ρ.set i (some (exS b c x)))) | .ex y => .ex (y, ρ.set i (some (exS b c x))) | .bad => .bad) := fun b c => by
    unfold dRetY stY upE
    rw [h b c x ρ]
    cases g 0 0 x (ρ.set i (some (exS 0 0 x))) <;> rfl
  dsimp only
  rw [e 0 0, e a dd]
  cases g 0 0 x (ρ.set i (some (exS 0 0 x))) with
  | ok d => exact ⟨_, rfl, by rw [List.set_set, List.set_set]⟩
  | ex y => trivial
  | bad => trivial
end VS
end
section
set_option Elab.async false
set_option linter.all false
set_option maxRecDepth 100000
set_option autoImplicit false
namespace VS
open PySem PySem.Spec PyProof.Rows L2
/-! ### suites of several statements -/
def SS (i : Nat) (s : Addr → Addr → Exc → Rho → RS) : Prop := ∀ (a dd : Addr) (x : Exc) (ρ : Rho), match s 0 0 x (ρ.set i (some (exS 0 0 x))) with
  | .ok (.nx ρ'') => ∃ ρ3 : Rho, ρ'' = ρ3.set i (some (exS 0 0 x)) ∧ s a dd x (ρ.set i (some (exS a dd x))) = .ok (.nx (ρ3.set i (some (exS a dd x))))
  | .ok (.rt d) => s a dd x (ρ.set i (some (exS a dd x))) = .ok (.rt d)
  | .ok (.ry d ρ'') => ∃ ρ3 : Rho, ρ'' = ρ3.set i (some (exS 0 0 x)) ∧ s a dd x (ρ.set i (some (exS a dd x))) = .ok (.ry d (ρ3.set i (some (exS a dd x))))
  | _ => True
def StE (i : Nat) (g : Addr → Addr → Exc → Rho → RE PyData) : Prop := ∀ (a dd : Addr) (x : Exc) (ρ : Rho), g a dd x (ρ.set i (some (exS a dd x))) = g 0 0 x (ρ.set i (some (exS 0 0 x)))
theorem SS.steady {i : Nat} {s : Addr → Addr → Exc → Rho → RS} (h : SS i s) : Steady i s := fun a dd x ρ => by
  have z := h a dd x ρ
  cases eq : s 0 0 x (ρ.set i (some (exS 0 0 x))) with
  | bad => trivial
  | ex y => trivial
  | ok f =>
    rw [eq] at z
    cases f with
    | nx ρ'' =>
      obtain ⟨ρ3, rfl, e⟩ := z
      exact ⟨_, e, by rw [List.set_set, List.set_set]⟩
    | rt d => exact z
    | ry d ρ'' =>
      obtain ⟨ρ3, rfl, e⟩ := z
      exact ⟨_, e, by rw [List.set_set, List.set_set]⟩
theorem SS.of {i : Nat} {s : Addr → Addr → Exc → Rho → RS} (h : ∀ (x : Exc) (ρ : Rho), (∃ ρ3 : Rho, ∀ b c, s b c x (ρ.set i (some (exS b c x))) = .ok (.nx (ρ3.set i (some (exS b c x))))) ∨ (∀ f, s 0 0 x (ρ.set i (some (exS 0 0 x))) ≠ .ok f)) : SS i s := fun a dd x ρ => by
  rcases h x ρ with ⟨ρ3, e⟩ | e
  · rw [e 0 0]
    exact ⟨ρ3, rfl, e a dd⟩
  · cases q : s 0 0 x (ρ.set i (some (exS 0 0 x))) with
    | bad => trivial
    | ex y => trivial
    | ok f => exact absurd q (e f)
theorem SS.set {i j : Nat} {g : Addr → Addr → Exc → Rho → RE PyData} (hg : StE i g) (hj : i ≠ j) : SS i (fun a dd y => dSet j (g a dd y)) := SS.of fun x ρ => by
  cases q : g 0 0 x (ρ.set i (some (exS 0 0 x))) with
  | ok d => exact .inl ⟨ρ.set j (some (.fr d)), fun b c => by unfold dSet stE; rw [hg b c x ρ, q, List.set_comm _ _ hj.symm]⟩
  | ex y => exact .inr fun f z => by unfold dSet stE at z; rw [q] at z; cases z
  | bad => exact .inr fun f z => by unfold dSet stE at z; rw [q] at z; cases z
theorem SS.setN {i j : Nat} {g : Addr → Addr → Exc → Rho → RE PyData} (hg : StE i g) (hj : i ≠ j) : SS i (fun a dd y => dSetN j (g a dd y)) := SS.of fun x ρ => by
  cases q : g 0 0 x (ρ.set i (some (exS 0 0 x))) with
  | ok d =>
    cases d with
    | list ds => exact .inl ⟨ρ.set j (some (.ow ds)), fun b c => by unfold dSetN stE; rw [hg b c x ρ, q, List.set_comm _ _ hj.symm]⟩
    | _ => exact .inr fun f z => by unfold dSetN stE at z; rw [q] at z; cases z
  | ex y => exact .inr fun f z => by unfold dSetN stE at z; rw [q] at z; cases z
  | bad => exact .inr fun f z => by unfold dSetN stE at z; rw [q] at z; cases z
theorem SS.app {i j : Nat} {g : Addr → Addr → Exc → Rho → RE PyData} (hg : StE i g) (hj : i ≠ j) : SS i (fun a dd y => dApp j (g a dd y)) := SS.of fun x ρ => by
  have hl : ∀ b c, (ρ.set i (some (exS b c x)))[j]? = ρ[j]? := fun b c => List.getElem?_set_ne hj
  by_cases ho : ∃ ds, ρ[j]? = some (some (.ow ds))
  · obtain ⟨ds, ho⟩ := ho
    have ev : ∀ b c, dApp j (g b c x) (ρ.set i (some (exS b c x))) = stE (g b c x) (fun d ρ => if ds.length < lim then .ok (.nx (ρ.set j (some (.ow (ds ++ [d]))))) else .bad) (ρ.set i (some (exS b c x))) := fun b c => by unfold dApp atOw; rw [hl b c, ho]
    cases q : g 0 0 x (ρ.set i (some (exS 0 0 x))) with
    | ok d =>
      by_cases hlim : ds.length < lim
      · exact .inl ⟨ρ.set j (some (.ow (ds ++ [d]))), fun b c => by rw [ev]; unfold stE; rw [hg b c x ρ, q]; dsimp only; rw [if_pos hlim, List.set_comm _ _ hj.symm]⟩
      · exact .inr fun f z => by rw [ev] at z; unfold stE at z; rw [q] at z; dsimp only at z; rw [if_neg hlim] at z; cases z
    | ex y => exact .inr fun f z => by rw [ev] at z; unfold stE at z; rw [q] at z; cases z
    | bad => exact .inr fun f z => by rw [ev] at z; unfold stE at z; rw [q] at z; cases z
  · refine .inr fun f z => ?_
    unfold dApp atOw at z
    rw [hl] at z
    split at z
    · rename_i ds q; exact ho ⟨ds, q⟩
    · cases z
theorem SS.thn {i : Nat} {s t : Addr → Addr → Exc → Rho → RS} (hs : SS i s) (ht : SS i t) : SS i (fun a dd y => dThen (s a dd y) (t a dd y)) := fun a dd x ρ => by
  have z := hs a dd x ρ
  have e : ∀ b c, dThen (s b c x) (t b c x) (ρ.set i (some (exS b c x))) = (s b c x (ρ.set i (some (exS b c x)))).bind fun f => match f with | .nx ρ' => t b c x ρ' | .rt d => .ok (.rt d) | .ry d ρ' => .ok (.ry d ρ') := fun _ _ => rfl
  dsimp only
  rw [e 0 0, e a dd]
  cases q : s 0 0 x (ρ.set i (some (exS 0 0 x))) with
  | bad => trivial
  | ex y => trivial
  | ok f =>
    rw [q] at z
    cases f with
    | nx ρ'' =>
      obtain ⟨ρ3, rfl, e2⟩ := z
      rw [e2]
      exact ht a dd x ρ3
    | rt d => rw [z]; rfl
    | ry d ρ'' =>
      obtain ⟨ρ3, rfl, e2⟩ := z
      rw [e2]
      exact ⟨ρ3, rfl, rfl⟩

/-! ### len, str, == of instances -/
def lenB (d : PyData) : Option Int := match d with
  | .int n => if decide (0 ≤ n ∧ n ≤ 1000000) = true then some n else none
  | _ => none
theorem lenB_ok {d : PyData} {n : Int} (h : lenB d = some n) : d = .int n ∧ 0 ≤ n ∧ n < 2 ^ 63 := by
  unfold lenB at h
  split at h
  · split at h
    · rename_i hd
      cases h
      have := of_decide_eq_true hd
      exact ⟨rfl, this.1, by omega⟩
    · cases h
  · cases h
def dLenY (f : FR) (i : Nat) : Rho → RE PyData := fun ρ => match getY ρ[i]? with
  | some s => (match f s [] with
    | .ok d => R.of ((lenB d).map .int)
    | _ => .bad)
  | none => .bad
def strB (d : PyData) : Option Str := match d with
  | .str z => some z
  | _ => none
def dStrY (f : FR) (i : Nat) : Rho → RE PyData := fun ρ => match getY ρ[i]? with
  | some s => (match f s [] with
    | .ok d => R.of ((strB d).map .str)
    | _ => .bad)
  | none => .bad
section
variable {X : Cx} {xc : Nat → Addr} {W : WX} {o : Expr} {C f : Addr} {fd : FuncData} {ps : List Str} {n i : Nat} {p pos : Pos} {fr : FR}
/-- one that never raises: what it returns is looked at -/
def rOwn (K : PySem.W.Frag) (C : Addr) (sp : Sp) (T : V → Hp → VK → Prop) : List V → Hp → VK → Prop := fun xs H Q => ∃ a dx fs, xs = [.ref a] ∧ H a = some (.ins C dx fs) ∧ sp [.ref a] H (fun v H2 => T v H2 Q) (fun _ _ _ => False)
def tLen : V → Hp → VK → Prop := fun v H Q => ∃ n : Int, v = .int n ∧ (0 ≤ n ∧ n < 2 ^ 63) ∧ Q (.int n) H
def tStr : V → Hp → VK → Prop := fun v H Q => ∃ z : Str, v = .str z ∧ Q (.str z) H
theorem pass_none {σ : L2.St} : PassesAt (L2.CX X.prog X.w) X σ (fun _ _ _ => False) := fun _ _ _ _ _ _ c => (cx_none c).elim
theorem call_lenOwn {sp : Sp} (hm : Meth X.K C "__len__" f) (F : FnOk X.prog X.w X.K X.mg X.base (L2.CX X.prog X.w) n f fd ps sp) (hr : Room (n + 1) X.A) (hb : Binds X.K fd ps []) : CallR X (.builtin "len") (rOwn X.K C sp tLen) := by
  intro pins s σ H xs us Q I r h
  obtain ⟨a, dx, fs, rfl, ha, h⟩ := h
  cases r with
  | cons rx rr =>
    cases rr
    cases rx
    obtain ⟨mA, J, _⟩ := ins_get I.hok ha
    obtain ⟨od, J, _⟩ := J.look
    obtain ⟨m, hF⟩ := I.fr
    refine PySem.W.len_K hF I.ok.mod.kin J hm.at_ hm.fn (wpAny_mono (run_at (us := [.ref a]) (vs := [.ref a]) F hr.in1 I.env0.in1 hb pass_none I (.cons rfl .nil) h) (fun v s' z => ?_) fun _ _ z => z)
    obtain ⟨x, H2, I2, rx, k, rfl, hk, q⟩ := z
    obtain ⟨t, rfl⟩ := rx
    exact ⟨hk, .int k, H2, I2.tok _, ⟨_, rfl⟩, q⟩
theorem call_strOwn {sp : Sp} (hm : Meth X.K C "__str__" f) (F : FnOk X.prog X.w X.K X.mg X.base (L2.CX X.prog X.w) n f fd ps sp) (hr : Room (n + 2) X.A) (hb : Binds X.K fd ps []) : CallR X (.type "str") (rOwn X.K C sp tStr) := by
  intro pins s σ H xs us Q I r h
  obtain ⟨a, dx, fs, rfl, ha, h⟩ := h
  cases r with
  | cons rx rr =>
    cases rr
    cases rx
    obtain ⟨mA, J, _⟩ := ins_get I.hok ha
    obtain ⟨od, J, _⟩ := J.look
    refine PySem.W.kso_call hr.in1.in1.units0 I.kIn J hm.at_ hm.fn (wpAny_mono (run_at (us := [.ref a]) (vs := [.ref a]) F hr.in1.in1 I.env0.in1.in1 hb pass_none I (.cons rfl .nil) h) (fun v s' z => ?_) fun _ _ z => z)
    obtain ⟨x, H2, I2, rx, k, rfl, q⟩ := z
    obtain ⟨t, rfl⟩ := rx
    exact ⟨.str k, H2, I2, ⟨_, rfl⟩, q⟩
theorem own_imp {K : PySem.W.Frag} {g : Rho → RE PyData} {T : V → Hp → VK → Prop} {B : PyData → Option PyData} (hg : ∀ ρ, g ρ = (match getY ρ[i]? with | some s => (match fr s [] with | .ok d => R.of (B d) | _ => .bad) | none => .bad))
    (hT : ∀ v d e F H (Q : VK), Dq K F v d → B d = some e → (∀ w, Dq K F w e → Q w H) → T v H Q) {σ : L2.St} {H : Hp} {Q : VK} (h : eC K xc W kF g σ H Q) : ∃ a C, σ[i]? = some (some (.ref a)) ∧ YC K C ∧ rOwn K C (spR K xc [] fr) T [.ref a] H Q := by
  obtain ⟨F0, H0, ρ, F, r, hb, hq, hx⟩ := h
  rw [hg] at hb hq
  cases q : getY ρ[i]? with
  | none => rw [q] at hb; exact absurd rfl hb
  | some s =>
    obtain ⟨st, k⟩ := s
    rw [q] at hb hq
    dsimp only at hb hq
    obtain ⟨a, C, dx, l, us, ea, hC, h1, h2, h3⟩ := r.yard q
    cases e : fr (st, k) [] with
    | bad => rw [e] at hb; exact absurd rfl hb
    | ex y => rw [e] at hb; exact absurd rfl hb
    | ok d =>
      rw [e] at hb hq
      dsimp only at hb hq
      cases ez : B d with
      | none => rw [ez] at hb; exact absurd rfl hb
      | some z =>
        rw [ez] at hq
        refine ⟨a, C, ea, hC, a, dx, _, rfl, h1, F, a, [], st, k, [], rfl, r.same, ⟨C, dx, l, us, hC, h1, h2, h3⟩, ⟨rfl, rfl⟩, (by rw [e]; intro w; cases w), fun d' ed v F2 H2 x dv => ?_, (fun y ey => by rw [e] at ey; cases ey)⟩
        rw [e] at ed; cases ed
        exact hT v d z F2 H2 Q dv ez fun w dw => hq z rfl w F2 H2 x dw
theorem de_lenY (T : YT X.K X.mg C) (ho : PE X o (tVar i)) (hm : Meth X.K C "__len__" f) (F : FnOk X.prog X.w X.K X.mg X.base (L2.CX X.prog X.w) n f fd ps (spR X.K xc [] fr)) (hr : Room (n + 1) X.A) (hb : Binds X.K fd ps []) (hg : Gl X "len") (hmg : X.mg "len" = none)
    (hst : starEach [o] X.env = (false, eval o X.env) :: starEach [] X.env := by rfl) : DE X xc W kF (.Call (.Name "len" p) [o] [] pos) (dLenY fr i) := PE.imp (pe_callB (call_lenOwn hm F hr hb) hg hmg PySem.boot_len (pa_cons ho pa_nil hst) (by decide) (by decide) hst) fun σ H Q q => by
  obtain ⟨a, D, ea, hD, z⟩ := own_imp (T := tLen) (B := fun d => (lenB d).map .int) (fr := fr) (fun ρ => rfl) (fun v d e F H Q dv hB hQ => by
    cases hl : lenB d with
    | none => rw [hl] at hB; cases hB
    | some k =>
      rw [hl] at hB; cases hB
      obtain ⟨rfl, h1, h2⟩ := lenB_ok hl
      cases dv
      exact ⟨k, rfl, ⟨h1, h2⟩, hQ _ (.int k)⟩) q
  have := T.yc.uq hD
  subst this
  exact ⟨_, ea, z⟩
theorem de_strY (T : YT X.K X.mg C) (ho : PE X o (tVar i)) (hm : Meth X.K C "__str__" f) (F : FnOk X.prog X.w X.K X.mg X.base (L2.CX X.prog X.w) n f fd ps (spR X.K xc [] fr)) (hr : Room (n + 2) X.A) (hb : Binds X.K fd ps []) (hg : Gl X "str") (hmg : X.mg "str" = none)
    (hst : starEach [o] X.env = (false, eval o X.env) :: starEach [] X.env := by rfl) : DE X xc W kF (.Call (.Name "str" p) [o] [] pos) (dStrY fr i) := PE.imp (pe_callTy (call_strOwn hm F hr hb) hg hmg boot_str (pa_cons ho pa_nil hst) (by decide) (by decide) hst) fun σ H Q q => by
  obtain ⟨a, D, ea, hD, z⟩ := own_imp (T := tStr) (B := fun d => (strB d).map .str) (fr := fr) (fun ρ => rfl) (fun v d e F H Q dv hB hQ => by
    cases d with
    | str k =>
      cases hB
      cases dv
      exact ⟨k, rfl, hQ _ (.str k)⟩
    | _ => cases hB) q
  have := T.yc.uq hD
  subst this
  exact ⟨_, ea, z⟩
end
end VS
end
section
set_option Elab.async false
set_option linter.all false
set_option maxRecDepth 100000
set_option autoImplicit false
namespace VS
open PySem PySem.Spec PyProof.Rows L2
/-! ### == and != by the text's own __eq__ -/
section
open PySem.W
variable {prog : Program} {w : World} {A : Around} {E : Value → Shared → Prop} {s : Shared} {K : Frag} {x C f : Addr} {ox : Obj} {od : Option Obj} {b tb : Value}
theorem bound_ne {M : Model} {args : List Value} {Q : Option Value → Shared → Prop} (kin : K.In s.heap) (I : InstAt s.heap x ox C od) (hs : findIn K (.ref C) "__ne__" = some (some (.builtin "object.__ne__")))
    (h : wpAny M A (call (.builtin "object.__ne__") (.ref x :: args)) (fun v => Q (some v)) E s) : wpAny M A (callSpecialIfBound? (.ref x) "__ne__" args) Q E s := by
  simp only [callSpecialIfBound?, bindSpecialIfBound?]
  refine wpAny_holding (wpAny_bind (wpAny_bind (wpAny_bind (I.type.here ((looks_findIn kin hs).here (wpAny_bind (wpAny_askSetting (wpAny_ite ?_))))))))
  have last : wpAny M A (call (.builtin "object.__ne__") ([.ref x] ++ args) >>= fun v => pure (some v)) Q E s := wpAny_bind (wpAny_mono h (fun v s' z => wpAny_pure z) fun _ _ z => z)
  split
  · exact wpAny_bind (wpAny_of_eq (F.cmp_object.ne.bind _) (wpAny_pure (by exact last)))
  · exact wpAny_tryCatch (wpAny_bind (wpAny_of_eq (F.cmp_object.ne.bind _) (wpAny_pure (by exact last))))
theorem obj_ne {Q : Fin → Shared → Prop} (hu : A.units < cLine) (kin : K.In s.heap) (I : InstAt s.heap x ox C od) (hs : findIn K (.ref C) "__eq__" = some (some (.ref f))) (hf : isFn K (.ref f) = true)
    (h : wpAny (model prog w) A (call (.ref f) [.ref x, b]) (fun v s' => ∃ r, v = .bool r ∧ Q (.done (.ret (.bool (!r)))) s') E s) : wpAny (model prog w) A (Builtin.«object.__ne__» ⟨[.ref x, b], []⟩) Q E s := by
  unfold Builtin.«object.__ne__»
  repeat (first
    | with_reducible refine wpAny_cRoomFor hu ?_
    | (refine wpAny_bind (m := callSpecialIfBound? (.ref x) (Str.ofString "__eq__") [b]) (ifBound_K kin I hs hf (wpAny_mono h (fun r s' hr => by
        obtain ⟨v, rfl, hq⟩ := hr
        repeat (first | exact hq | exact wpAny_pure hq | exact wpAny_truthy_bool hq | (refine wpAny_bind (m := truthy (.bool _)) (wpAny_truthy_bool ?_)) | wp_step)) fun _ _ z => z)))
    | wp_step)
theorem cmp_ne {Q : Value → Shared → Prop} (hu : A.units + 1 < cLine) (kin : K.In s.heap) (I : InstAt s.heap x ox C od) (hb : Looks (model prog w) s.heap (typeOf b) tb) (hn : notFirst K C tb = true) (hm : mroIn K C (.type "object") = some true)
    (hne : findIn K (.ref C) "__ne__" = some (some (.builtin "object.__ne__"))) (hs : findIn K (.ref C) "__eq__" = some (some (.ref f))) (hf : isFn K (.ref f) = true)
    (h : wpAny (model prog w) A.in1 (call (.ref f) [.ref x, b]) (fun v s' => ∃ r, v = .bool r ∧ Q (.bool (!r)) s') E s) : wpAny (model prog w) A (richCompare .NotEq (.ref x) b) Q E s := by
  have one : wpAny (model prog w) A (tryCompare (.ref x) "__ne__" b) (fun r s' => ∃ v, r = some v ∧ Q v s') E s := by
    unfold tryCompare
    refine wpAny_bind (bound_ne kin I hne (wpAny_call (codeAny_call_builtin F.cmp_object.ne.plain F.cmpEntry_ne (check_slot F.cmpKind_ne F.cmpSplit_ne (I.type.andThen (looks_mroIn kin hm)) (F.cmpArgs_ne _ _) (obj_ne (A := A.in1) hu kin I hs hf (wpAny_mono h (fun v s' z => ?_) fun _ _ z => z))))))
    obtain ⟨r, rfl, q⟩ := z
    first | exact ⟨r, rfl, wpAny_pure ⟨_, rfl, q⟩⟩ | exact ⟨r, rfl, ⟨_, rfl, q⟩⟩ | exact ⟨r, rfl, wpAny_pure (wpAny_pure ⟨_, rfl, q⟩)⟩
  unfold richCompare
  simp only [oneThing_ref]
  refine wpAny_holding (wpAny_bind (wpAny_cRoomFor (Nat.lt_of_succ_lt hu) ?_))
  refine wpAny_bind (I.type.here (wpAny_bind (hb.here ?_)))
  have go : ∀ {P : Value → Shared → Prop}, (∀ v s', Q v s' → P v s') → True := fun _ => trivial
  split
  · rename_i q
    have e : subIn K tb (.ref C) = some false := by
      rcases Bool.or_eq_true_iff.mp hn with z | z
      · rw [beq_iff_eq.mp z] at q; simp at q
      · exact beq_iff_eq.mp z
    refine wpAny_bind ((looks_subIn kin e).here ?_)
    simp only [Bool.false_eq_true, if_false]
    refine wpAny_bind (wpAny_mono one (fun r s' z => ?_) fun _ _ z => z)
    obtain ⟨v, rfl, hq⟩ := z
    exact wpAny_pure hq
  · refine wpAny_bind (wpAny_pure ?_)
    simp only [Bool.false_eq_true, if_false]
    refine wpAny_bind (wpAny_mono one (fun r s' z => ?_) fun _ _ z => z)
    obtain ⟨v, rfl, hq⟩ := z
    exact wpAny_pure hq
end
structure YT2 (K : PySem.W.Frag) (C : Addr) : Prop where
  ne : PySem.W.findIn K (.ref C) "__ne__" = some (some (.builtin "object.__ne__"))
  mr : PySem.W.mroIn K C (.type "object") = some true
  ty : PySem.W.typeIn K (.ref C) = some (.type "type")
  hd : PySem.W.hasDictIn K C = true
  ca : PySem.W.findIn K (.ref C) "__class__" = some (some (.builtin "object.__class__"))
  gn : PySem.W.specialIn K (.builtin "object.__class__") "__get__" = some (some (.builtin "getset_descriptor.__get__"))
  tk : PySem.W.takesIn K (.builtin "object.__class__") = some true
abbrev FE := (List PyData × Int) → (List PyData × Int) → RE PyData
def spE (K : PySem.W.Frag) (xc : Nat → Addr) (f : FE) : Sp := fun vs H Q E => ∃ (F : Hp) (a b : Addr) (s1 s2 : List PyData × Int), vs = [.ref a, .ref b] ∧ Same F H ∧ YRd K F H a s1.1 s1.2 ∧ YRd K F H b s2.1 s2.2 ∧ f s1 s2 ≠ .bad ∧
  (∀ d, f s1 s2 = .ok d → ∀ v F2 H2, Fz F H F2 H2 → Dq K F2 v d → Q v H2) ∧
  (∀ x, f s1 s2 = .ex x → ∀ cls dd F2 H2, Fz F H F2 H2 → XOk K xc F2 H2 x cls dd → E cls dd H2)
def fnE (n : Nat) (g : Rho → RS) : FE := fun s1 s2 => match g ([some (.pr (.sy s1.1 s1.2)), some (.pr (.sy s2.1 s2.2))] ++ List.replicate (n - 2) none) with
  | .ok (.rt d) => .ok d
  | .ok (.ry d _) => .ok d
  | .ok (.nx _) => .ok .none
  | .ex (x, _) => .ex x
  | .bad => .bad
section
variable {P : Program} {w : World} {K : PySem.W.Frag} {mg : Str → Option Value} {base : Heap} {xc : Nat → Addr} {x qual : Str} {st : Stmt} {f : Addr} {fd : FuncData} {N ps : List Str} {m n : Nat} {g : Rho → RS}
theorem fn_isE (F : Fun K x qual st f fd) (S : FnScope N ps (defScope st)) (hk : ps.length = 2) (hn : N.length = n)
    (body : ∀ (cdv : Value) (A : Around) (outer : List Env) (s : Shared) (H : Hp) (E : XK), Room (m + 1) (cxOf (L2.CX P w) P w K mg base N qual (defScope st) f cdv A outer s H E).A → (cxOf (L2.CX P w) P w K mg base N qual (defScope st) f cdv A outer s H E).A.units + 65 < cLine →
      Takes (cxOf (L2.CX P w) P w K mg base N qual (defScope st) f cdv A outer s H E) (fun cls d _ H => E cls d H) →
      PassesOwn (model P w) (cxOf (L2.CX P w) P w K mg base N qual (defScope st) f cdv A outer s H E).A (cxOf (L2.CX P w) P w K mg base N qual (defScope st) f cdv A outer s H E).env (cxOf (L2.CX P w) P w K mg base N qual (defScope st) f cdv A outer s H E).xe →
      DS (cxOf (L2.CX P w) P w K mg base N qual (defScope st) f cdv A outer s H E) xc (fun cls d _ H => E cls d H) (defBody st) g) :
    FnOk P w K mg base (L2.CX P w) (m + 2) f fd ps (spE K xc (fnE n g)) := by
  refine F.okX S (fun vs H Q E h => ?_) (fun cdv A outer s H vs Q E hr h => ?_)
  · obtain ⟨F, a, b, s1, s2, rfl, _⟩ := h
    rw [hk]; rfl
  · obtain ⟨Ff, a, b, s1, s2, rfl, sm, y1, y2, hb, hq, hx⟩ := h
    subst hn
    have hw : ∀ r, g ([some (.pr (.sy s1.1 s1.2)), some (.pr (.sy s2.1 s2.2))] ++ List.replicate (N.length - 2) none) = r → fnE N.length g s1 s2 = (match r with
      | .ok (.rt d) => .ok d
      | .ok (.ry d _) => .ok d
      | .ok (.nx _) => .ok .none
      | .ex (x, _) => .ex x
      | .bad => .bad) := fun r e => by unfold fnE; rw [e]
    obtain ⟨C1, dx1, l1, us1, c1, a1, b1, d1⟩ := y1
    obtain ⟨C2, dx2, l2, us2, c2, a2, b2, d2⟩ := y2
    have sl : ∀ (i : Nat) (sv : SV), (([some (.pr (.sy s1.1 s1.2)), some (.pr (.sy s2.1 s2.2))] : Rho) ++ List.replicate (N.length - 2) none)[i]? = some (some sv) → SlotOk K Ff H Ff H sv ((([V.ref a, V.ref b].map some) ++ List.replicate (N.length - 2) none)[i]?) ∧ mutB sv = false := fun i sv e => by
      match i, e with
      | 0, e => cases e; exact ⟨⟨_, rfl, a, C1, dx1, l1, us1, rfl, c1, a1, b1, d1⟩, rfl⟩
      | 1, e => cases e; exact ⟨⟨_, rfl, b, C2, dx2, l2, us2, rfl, c2, a2, b2, d2⟩, rfl⟩
      | i + 2, e =>
        have e' : (List.replicate (N.length - 2) (none : Option SV))[i]? = some (some sv) := e
        rw [List.getElem?_replicate] at e'
        split at e' <;> cases e'
    refine ⟨_, body cdv A outer s H E hr (Room.u65 (n := m) hr) (takes_of rfl rfl rfl rfl) (passes_of rfl), Ff, H, _, Ff, ⟨.refl sm, ?_, fun i sv e => (sl i sv e).1, fun i j es fs _ e _ => ?_, ⟨fun i j t es a b cs e => ?_, fun i j t es a b cs e => ?_, fun i j t u a b cs es nij e e2 => ?_⟩⟩,
      ⟨fun z => hb ?_, fun ρ' e σ' F' H' _ r' => hq .none ?_ .non F' H' r'.fz .non, fun d e v F' H' fz dd => hq d ?_ v F' H' fz dd, fun y' ρ' e cls dd σ' F' H' _ r' xo => hx y' ?_ cls dd F' H' r'.fz xo, fun d ρ' e v σ' F' H' _ r' dd => hq d ?_ v F' H' r'.fz dd⟩⟩
    · show _ = (([V.ref a, V.ref b].map some) ++ List.replicate (N.length - 2) none).length
      simp
    · have z := (sl i _ e).2; cases z
    · have z := (sl i _ e).2; cases z
    · have z := (sl i _ e).2; cases z
    · have z := (sl i _ e).2; cases z
    · rw [hw _ z]
    · rw [hw _ e]
    · rw [hw _ e]
    · rw [hw _ e]
    · rw [hw _ e]
end
/-- what == asks; neg: of != -/
def rEqO (K : PySem.W.Frag) (C : Addr) (sp : Sp) (neg : Bool) : R2 := fun x y H Q => ∃ a dx fs t, x = .ref a ∧ H a = some (.ins C dx fs) ∧ TyX K H y t ∧ PySem.W.notFirst K C t = true ∧ sp [x, y] H (fun v H2 => ∃ b, v = .bl b ∧ Q (.bl (b != neg)) H2) (fun _ _ _ => False)
section
variable {X : Cx} {C f : Addr} {fd : FuncData} {ps : List Str} {n : Nat} {sp : Sp}
theorem op_eqO (hm : Meth X.K C "__eq__" f) (F : FnOk X.prog X.w X.K X.mg X.base (L2.CX X.prog X.w) n f fd ps sp) (hr : Room n X.A) (hb : Binds X.K fd ps []) : OpR X (compareOp .Eq) (rEqO X.K C sp false) := by
  intro pins s σ H x y v u Q I rx ry h
  obtain ⟨a, dx, fs, t, rfl, ha, ty, nf, h⟩ := h
  cases rx
  obtain ⟨mA, J, _⟩ := ins_get I.hok ha
  obtain ⟨od, J, _⟩ := J.look
  obtain ⟨m, hF⟩ := I.fr
  obtain ⟨P, Z, pz, _⟩ := kit_of I ry ty
  show wpAny (model X.prog X.w) X.A (richCompare .Eq (.ref a) u) (EP X pins σ Q) X.xe s
  refine PySem.W.cmp_K (op := .Eq) hr.units0 hF I.ok.mod.kin J (Z.ty _ _ I.kIn pz) nf hm.at_ hm.fn (wpAny_mono (run_at (us := [.ref a, u]) (vs := [.ref a, y]) F hr I.env0 hb pass_none I (.cons rfl (.cons ry .nil)) h) (fun v s' z => ?_) fun _ _ z => z)
  obtain ⟨x2, H2, I2, rx2, b, rfl, q⟩ := z
  cases rx2
  exact ⟨.bl b, H2, I2, rfl, by simpa using q⟩
theorem op_neO (T : YT2 X.K C) (hm : Meth X.K C "__eq__" f) (F : FnOk X.prog X.w X.K X.mg X.base (L2.CX X.prog X.w) n f fd ps sp) (hr : Room (n + 1) X.A) (hb : Binds X.K fd ps []) : OpR X (compareOp .NotEq) (rEqO X.K C sp true) := by
  intro pins s σ H x y v u Q I rx ry h
  obtain ⟨a, dx, fs, t, rfl, ha, ty, nf, h⟩ := h
  cases rx
  obtain ⟨mA, J, _⟩ := ins_get I.hok ha
  obtain ⟨od, J, _⟩ := J.look
  obtain ⟨P, Z, pz, _⟩ := kit_of I ry ty
  show wpAny (model X.prog X.w) X.A (richCompare .NotEq (.ref a) u) (EP X pins σ Q) X.xe s
  refine cmp_ne (by have := hr.units; omega) I.kIn J (Z.ty _ _ I.kIn pz) nf T.mr T.ne hm.at_ hm.fn (wpAny_mono (run_at (us := [.ref a, u]) (vs := [.ref a, y]) F hr.in1 I.env0.in1 hb pass_none I (.cons rfl (.cons ry .nil)) h) (fun v s' z => ?_) fun _ _ z => z)
  obtain ⟨x2, H2, I2, rx2, b, rfl, q⟩ := z
  cases rx2
  exact ⟨b, rfl, .bl (!b), H2, I2, rfl, by cases b <;> exact q⟩
end
theorem nf_ty {K : PySem.W.Frag} {C : Addr} {T : String} (h : T = "tuple" ∨ T = "str") : PySem.W.subIn K (.type T) (.ref C) = some false := by
  rcases h with rfl | rfl
  · have e : fastBuiltinMro "tuple" = some [.type "tuple", .type "object"] := by decide +kernel
    show (fastBuiltinMro "tuple").map (·.contains (.ref C)) = some false
    rw [e]; first | rfl | simp
  · have e : fastBuiltinMro "str" = some [.type "str", .type "object"] := by decide +kernel
    show (fastBuiltinMro "str").map (·.contains (.ref C)) = some false
    rw [e]; first | rfl | simp
def bOf (neg : Bool) : RE PyData → RE PyData
  | .ok (.bool b) => .ok (.bool (b != neg))
  | _ => .bad
def dEqYY (f : FE) (i j : Nat) (neg : Bool) : Rho → RE PyData := fun ρ => match getY ρ[i]?, getY ρ[j]? with
  | some s1, some s2 => bOf neg (f s1 s2)
  | _, _ => .bad
def isTS (d : PyData) : Bool := dTy d == "tuple" || dTy d == "str"
def dEqYD (f : FR) (i : Nat) (g : Rho → RE PyData) (neg : Bool) : Rho → RE PyData := fun ρ => match getY ρ[i]? with
  | some s => (g ρ).bind fun d => if isTS d = true then bOf neg (f s [d]) else .bad
  | none => .bad
def dEqYM (f : FE) (i : Nat) (g : Rho → RE (List PyData × Int)) (neg : Bool) : Rho → RE PyData := fun ρ => match getY ρ[i]? with
  | some s => (g ρ).bind fun s2 => bOf neg (f s s2)
  | none => .bad
theorem bOf_ok {neg : Bool} {x : RE PyData} (h : bOf neg x ≠ .bad) : ∃ b, x = .ok (.bool b) ∧ bOf neg x = .ok (.bool (b != neg)) := by
  unfold bOf at h
  split at h
  · exact ⟨_, rfl, rfl⟩
  · exact absurd rfl h
theorem bOf_ex {neg : Bool} {x : RE PyData} {y : Exc} (h : bOf neg x = .ex y) : False := by
  unfold bOf at h
  split at h <;> cases h
section
variable {K : PySem.W.Frag} {xc : Nat → Addr} {W : WX} {C : Addr} {i j : Nat} {neg : Bool} {σ : L2.St} {H : Hp} {Q : VK}
theorem tyx_yard {a dx : Addr} {fs : List (Str × V)} (cl : Cls K C) (T2 : YT2 K C) (h : H a = some (.ins C dx fs)) : TyX K H (.ref a) (.ref C) := .base (.ins h cl T2.ca T2.gn T2.tk T2.mr)
theorem eqYY_imp {f : FE} {mg : Str → Option Value} (T : YT K mg C) (T2 : YT2 K C) (h : eC K xc W kF (dEqYY f i j neg) σ H Q) : tOp (rEqO K C (spE K xc f) neg) (tVar i) (tVar j) σ H Q := by
  obtain ⟨F0, H0, ρ, F, r, hb, hq, hx⟩ := h
  unfold dEqYY at hb hq
  cases q1 : getY ρ[i]? with
  | none => rw [q1] at hb; exact absurd rfl hb
  | some s1 =>
    cases q2 : getY ρ[j]? with
    | none => rw [q1, q2] at hb; exact absurd rfl hb
    | some s2 =>
      rw [q1, q2] at hb hq
      dsimp only at hb hq
      obtain ⟨b, eb, eb2⟩ := bOf_ok hb
      obtain ⟨a1, C1, dx1, l1, us1, e1, c1, h1, h2, h3⟩ := r.yard (st := s1.1) (k := s1.2) q1
      obtain ⟨a2, C2, dx2, l2, us2, e2, c2, g1, g2, g3⟩ := r.yard (st := s2.1) (k := s2.2) q2
      have := T.yc.uq c1
      subst this
      have := T.yc.uq c2
      subst this
      refine ⟨.ref a1, e1, .ref a2, e2, a1, dx1, _, .ref C, rfl, h1, tyx_yard T.cl T2 g1, by simp [PySem.W.notFirst], F, a1, a2, s1, s2, rfl, r.same, ⟨C, dx1, l1, us1, c1, h1, h2, h3⟩, ⟨C, dx2, l2, us2, c2, g1, g2, g3⟩, (by rw [eb]; intro w; cases w), fun d ed v F2 H2 x dv => ?_, (fun y ey => by rw [eb] at ey; cases ey)⟩
      rw [eb] at ed; cases ed
      cases dv
      exact ⟨b, rfl, hq _ eb2 _ F2 H2 x (.bl _)⟩
theorem eqYD_imp {f : FR} {g : Rho → RE PyData} {mg : Str → Option Value} (T : YT K mg C) (h : eC K xc W kF (dEqYD f i g neg) σ H Q) : tOp (rEqO K C (spR K xc [true] f) neg) (tVar i) (eC K xc W kF g) σ H Q := by
  obtain ⟨F0, H0, ρ, F, r, hb, hq, hx⟩ := h
  unfold dEqYD at hb hq hx
  cases q1 : getY ρ[i]? with
  | none => rw [q1] at hb; exact absurd rfl hb
  | some s1 =>
    rw [q1] at hb hq hx
    dsimp only at hb hq hx
    obtain ⟨a1, C1, dx1, l1, us1, e1, c1, h1, _⟩ := r.yard (st := s1.1) (k := s1.2) q1
    have := T.yc.uq c1
    subst this
    refine ⟨.ref a1, e1, eC.go r hb hx fun d ed v F2 H2 x r2 dv hb2 hx2 => ?_⟩
    obtain ⟨a1', C1', dx1', l1', us1', e1', c1', h1', h2', h3'⟩ := r2.yard (st := s1.1) (k := s1.2) q1
    rw [e1] at e1'; cases e1'
    have := T.yc.uq c1'
    subst this
    by_cases ht : isTS d = true
    · rw [if_pos ht] at hb2 hx2
      obtain ⟨b, eb, eb2⟩ := bOf_ok hb2
      have htd : dTy d = "tuple" ∨ dTy d = "str" := by
        unfold isTS at ht
        rw [Bool.or_eq_true, beq_iff_eq, beq_iff_eq] at ht
        exact ht
      refine ⟨a1, dx1', _, .type (dTy d), rfl, h1', dTy_ok r2.same (.inl dv), by unfold PySem.W.notFirst; rw [nf_ty htd]; simp, F2, a1, [v], s1.1, s1.2, [d], rfl, r2.same, ⟨C, dx1', l1', us1', c1', h1', h2', h3'⟩, ⟨v, [], d, [], rfl, rfl, by rw [if_pos rfl]; exact dv, rfl, rfl⟩, (by rw [eb]; intro w; cases w), fun d' ed' v' F3 H3 x3 dv' => ?_, (fun y ey => by rw [eb] at ey; cases ey)⟩
      rw [eb] at ed'; cases ed'
      cases dv'
      exact ⟨b, rfl, hq _ (by rw [ed, R.bind_ok, if_pos ht]; exact eb2) _ F3 H3 (x.trans x3) (.bl _)⟩
    · rw [if_neg ht] at hb2; exact absurd rfl hb2
theorem eqYM_imp {f : FE} {g : Rho → RE (List PyData × Int)} {mg : Str → Option Value} (T : YT K mg C) (T2 : YT2 K C) (h : eC K xc W kF (dEqYM f i g neg) σ H Q) : tOp (rEqO K C (spE K xc f) neg) (tVar i) (yC K xc W g) σ H Q := by
  obtain ⟨F0, H0, ρ, F, r, hb, hq, hx⟩ := h
  unfold dEqYM at hb hq hx
  cases q1 : getY ρ[i]? with
  | none => rw [q1] at hb; exact absurd rfl hb
  | some s1 =>
    rw [q1] at hb hq hx
    dsimp only at hb hq hx
    obtain ⟨a1, C1, dx1, l1, us1, e1, c1, h1, _⟩ := r.yard (st := s1.1) (k := s1.2) q1
    have := T.yc.uq c1
    subst this
    refine ⟨.ref a1, e1, yC.go r hb hx fun s2 es a2 l2 F2 H2 x r2 ny hb2 hx2 => ?_⟩
    obtain ⟨a1', C1', dx1', l1', us1', e1', c1', h1', h2', h3'⟩ := r2.yard (st := s1.1) (k := s1.2) q1
    rw [e1] at e1'; cases e1'
    have := T.yc.uq c1'
    subst this
    obtain ⟨C2, dx2, us2, c2, na, nl, nal, fa, fl, g1, g2, g3⟩ := ny
    have := T.yc.uq c2
    subst this
    obtain ⟨b, eb, eb2⟩ := bOf_ok hb2
    refine ⟨a1, dx1', _, .ref C, rfl, h1', tyx_yard T.cl T2 g1, by simp [PySem.W.notFirst], F2, a1, a2, s1, s2, rfl, r2.same, ⟨C, dx1', l1', us1', c1', h1', h2', h3'⟩, ⟨C, dx2, l2, us2, c2, g1, SqL.of g2, g3⟩, (by rw [eb]; intro w; cases w), fun d' ed' v' F3 H3 x3 dv' => ?_, (fun y ey => by rw [eb] at ey; cases ey)⟩
    rw [eb] at ed'; cases ed'
    cases dv'
    exact ⟨b, rfl, hq _ (by rw [es, R.bind_ok]; exact eb2) _ F3 H3 (x.trans x3) (.bl _)⟩
end
section
variable {X : Cx} {xc : Nat → Addr} {W : WX} {o e : Expr} {C f : Addr} {fd : FuncData} {ps : List Str} {n i j : Nat} {pos : Pos} {f2 : FE} {f1 : FR} {g : Rho → RE PyData} {gy : Rho → RE (List PyData × Int)}
theorem de_eqYY (T : YT X.K X.mg C) (T2 : YT2 X.K C) (hm : Meth X.K C "__eq__" f) (F : FnOk X.prog X.w X.K X.mg X.base (L2.CX X.prog X.w) n f fd ps (spE X.K xc f2)) (hr : Room n X.A) (hb : Binds X.K fd ps []) (ha : PE X o (tVar i)) (he : PE X e (tVar j)) : DE X xc W kF (.Compare o [.Eq] [e] pos) (dEqYY f2 i j false) := PE.imp (pe_cmpR (op_eqO hm F hr hb) ha he (nomark _)) fun σ H Q => eqYY_imp T T2
theorem de_neYY (T : YT X.K X.mg C) (T2 : YT2 X.K C) (hm : Meth X.K C "__eq__" f) (F : FnOk X.prog X.w X.K X.mg X.base (L2.CX X.prog X.w) n f fd ps (spE X.K xc f2)) (hr : Room (n + 1) X.A) (hb : Binds X.K fd ps []) (ha : PE X o (tVar i)) (he : PE X e (tVar j)) : DE X xc W kF (.Compare o [.NotEq] [e] pos) (dEqYY f2 i j true) := PE.imp (pe_cmpR (op_neO T2 hm F hr hb) ha he (nomark _)) fun σ H Q => eqYY_imp T T2
theorem dt_eqYY (T : YT X.K X.mg C) (T2 : YT2 X.K C) (hm : Meth X.K C "__eq__" f) (F : FnOk X.prog X.w X.K X.mg X.base (L2.CX X.prog X.w) n f fd ps (spE X.K xc f2)) (hr : Room n X.A) (hb : Binds X.K fd ps []) (ha : PE X o (tVar i)) (he : PE X e (tVar j)) : DT X xc W (.Compare o [.Eq] [e] pos) (dTest (dEqYY f2 i j false)) := PT.imp (pt_cmpR (op_eqO hm F hr hb) ha he (nomark _)) fun σ H Q q => eqYY_imp T T2 (test_imp q)
theorem dt_neYY (T : YT X.K X.mg C) (T2 : YT2 X.K C) (hm : Meth X.K C "__eq__" f) (F : FnOk X.prog X.w X.K X.mg X.base (L2.CX X.prog X.w) n f fd ps (spE X.K xc f2)) (hr : Room (n + 1) X.A) (hb : Binds X.K fd ps []) (ha : PE X o (tVar i)) (he : PE X e (tVar j)) : DT X xc W (.Compare o [.NotEq] [e] pos) (dTest (dEqYY f2 i j true)) := PT.imp (pt_cmpR (op_neO T2 hm F hr hb) ha he (nomark _)) fun σ H Q q => eqYY_imp T T2 (test_imp q)
theorem dt_eqYD (T : YT X.K X.mg C) (hm : Meth X.K C "__eq__" f) (F : FnOk X.prog X.w X.K X.mg X.base (L2.CX X.prog X.w) n f fd ps (spR X.K xc [true] f1)) (hr : Room n X.A) (hb : Binds X.K fd ps []) (ha : PE X o (tVar i)) (he : DE X xc W kF e g) : DT X xc W (.Compare o [.Eq] [e] pos) (dTest (dEqYD f1 i g false)) := PT.imp (pt_cmpR (op_eqO hm F hr hb) ha he (nomark _)) fun σ H Q q => eqYD_imp T (test_imp q)
theorem dt_eqYM (T : YT X.K X.mg C) (T2 : YT2 X.K C) (hm : Meth X.K C "__eq__" f) (F : FnOk X.prog X.w X.K X.mg X.base (L2.CX X.prog X.w) n f fd ps (spE X.K xc f2)) (hr : Room n X.A) (hb : Binds X.K fd ps []) (ha : PE X o (tVar i)) (he : DY X xc W e gy) : DT X xc W (.Compare o [.Eq] [e] pos) (dTest (dEqYM f2 i gy false)) := PT.imp (pt_cmpR (op_eqO hm F hr hb) ha he (nomark _)) fun σ H Q q => eqYM_imp T T2 (test_imp q)
theorem de_eqYM (T : YT X.K X.mg C) (T2 : YT2 X.K C) (hm : Meth X.K C "__eq__" f) (F : FnOk X.prog X.w X.K X.mg X.base (L2.CX X.prog X.w) n f fd ps (spE X.K xc f2)) (hr : Room n X.A) (hb : Binds X.K fd ps []) (ha : PE X o (tVar i)) (he : DY X xc W e gy) : DE X xc W kF (.Compare o [.Eq] [e] pos) (dEqYM f2 i gy false) := PE.imp (pe_cmpR (op_eqO hm F hr hb) ha he (nomark _)) fun σ H Q q => eqYM_imp T T2 q
/-- isinstance(x, Yard) -/
def isYB : Option (Option SV) → Option Bool
  | some (some (.fr d)) => if isTS d = true then some false else none
  | o => (getY o).map fun _ => true
def dIsY (i : Nat) : Rho → RE PyData := fun ρ => R.of ((isYB ρ[i]?).map .bool)
theorem de_isY {p p1 : Pos} (T : YT X.K X.mg C) (T2 : YT2 X.K C) (hg : Gl X "isinstance") (hm : X.mg "isinstance" = none) (hgy : Gl X "Yard") (ha : PE X o (tVar i))
    (hst : starEach [o, .Name "Yard" p1] X.env = (false, eval o X.env) :: starEach [.Name "Yard" p1] X.env := by rfl) : DE X xc W kF (.Call (.Name "isinstance" p) [o, .Name "Yard" p1] [] pos) (dIsY i) :=
  PE.imp (pe_callB call_isi hg hm boot_isi (pa_cons ha (pa_cons (pe_glob (v := .ref C) hgy T.g rfl) pa_nil) hst) (by decide) (by decide) hst) fun σ H Q ⟨F0, H0, ρ, F, r, hb, hq, hx⟩ => by
  unfold dIsY at hb hq
  cases q : isYB ρ[i]? with
  | none => rw [q] at hb; exact absurd rfl hb
  | some b =>
    rw [q] at hq
    have fin := hq _ rfl (.bl b) F H (.refl r.same) (.bl b)
    unfold isYB at q
    split at q
    · rename_i d e
      by_cases ht : isTS d = true
      · rw [if_pos ht] at q
        cases q
        obtain ⟨v, ev, dv⟩ := r.sl i _ e
        have htd : dTy d = "tuple" ∨ dTy d = "str" := by
          unfold isTS at ht
          rw [Bool.or_eq_true, beq_iff_eq, beq_iff_eq] at ht
          exact ht
        refine ⟨v, ev, v, .ref C, .type (dTy d), .ref C, false, rfl, .own C, dTy_ok r.same (.inl dv), ?_, fin⟩
        obtain ⟨cd, hc, _⟩ := PySem.W.any_some T2.hd
        have e2 : ((PySem.W.clsIn X.K C).isSome && PySem.W.typeIn X.K (.ref C) == some (.type "type")) = true := by rw [hc, T2.ty] <;> rfl
        unfold PySem.W.kitOne
        rw [if_neg (by simp)]
        show (if ((PySem.W.clsIn X.K C).isSome && PySem.W.typeIn X.K (.ref C) == some (.type "type")) = true then PySem.W.subIn X.K (.type (dTy d)) (.ref C) else none) = some false
        rw [if_pos e2, nf_ty htd]
      · rw [if_neg ht] at q; cases q
    · cases q1 : getY ρ[i]? with
      | none => rw [q1] at q; cases q
      | some s =>
        rw [q1] at q; cases q
        obtain ⟨a1, C1, dx1, l1, us1, e1, c1, h1, _⟩ := r.yard (st := s.1) (k := s.2) q1
        have := T.yc.uq c1
        subst this
        exact ⟨.ref a1, e1, .ref a1, .ref C, .ref C, .ref C, true, rfl, .own C, tyx_yard T.cl T2 h1, by unfold PySem.W.kitOne; rw [if_pos (by simp)], fin⟩
end
end VS
end
section
set_option Elab.async false
set_option linter.all false
set_option maxRecDepth 100000
set_option autoImplicit false
namespace VS
open PySem PySem.Spec PyProof.Rows L2
/-! ### a compound goes to another name; several made at once; a list of lists grows -/
section
variable {K : PySem.W.Frag} {F0 H0 F H : Hp} {ρ : Rho} {σ : L2.St}
theorem SRel.moveC {i j : Nat} {a : Addr} {t : Cp} (r : SRel K F0 H0 ρ σ F H) (hi : ρ[i]? = some (some (.cp t))) (hs : σ[i]? = some (some (.ref a))) (hij : i ≠ j) : SRel K F0 H0 ((ρ.set i none).set j (some (.cp t))) (σ.set j (some (.ref a))) F H := by
  have back : ∀ (k : Nat) (sv : SV), ((ρ.set i none).set j (some (.cp t)))[k]? = some (some sv) → (k = j ∧ sv = .cp t) ∨ (k ≠ i ∧ k ≠ j ∧ ρ[k]? = some (some sv)) := fun k sv e => by
    rcases set_some e with ⟨rfl, q, _⟩ | ⟨n, q⟩
    · cases q; exact .inl ⟨rfl, rfl⟩
    · rcases set_some q with ⟨_, w, _⟩ | ⟨n2, w⟩
      · cases w
      · exact .inr ⟨fun z => n2 z.symm, fun z => n z.symm, w⟩
  have at_j : ∀ b, (σ.set j (some (.ref a)))[j]? = some (some (.ref b)) → b = a := fun b e => by
    rw [List.getElem?_set, if_pos rfl] at e
    split at e
    · cases e; rfl
    · cases e
  refine ⟨r.fz, by rw [List.length_set, List.length_set, List.length_set, r.ln], fun k sv e => ?_, fun k l ds es n e1 e2 => ?_, ⟨fun k l u ds b c cs e1 e2 e3 e4 e5 => ?_, fun k l u ds b c cs e1 e2 e3 e4 e5 => ?_, fun k l u v b c cs es n e1 e2 e3 e4 e5 e6 => ?_⟩⟩
  · rcases back k sv e with ⟨rfl, rfl⟩ | ⟨n1, n2, q⟩
    · have hl : k < σ.length := by
        rcases set_some e with ⟨_, _, hl⟩ | ⟨n, _⟩
        · rw [List.length_set, r.ln] at hl; exact hl
        · exact absurd rfl n
      have z := r.sl i _ hi
      rw [hs] at z
      rw [List.getElem?_set_self hl]
      exact z
    · rw [List.getElem?_set_ne (Ne.symm n2)]
      exact r.sl k sv q
  · rcases back k _ e1 with ⟨_, z⟩ | ⟨_, n2, q1⟩
    · cases z
    rcases back l _ e2 with ⟨_, z⟩ | ⟨_, m2, q2⟩
    · cases z
    rw [List.getElem?_set_ne (Ne.symm n2), List.getElem?_set_ne (Ne.symm m2)]
    exact r.df k l ds es n q1 q2
  · rcases back l _ e2 with ⟨_, z⟩ | ⟨_, m2, q2⟩
    · cases z
    rw [List.getElem?_set_ne (Ne.symm m2)] at e4
    rcases back k _ e1 with ⟨rfl, z⟩ | ⟨_, n2, q1⟩
    · cases z
      have := at_j _ e3
      subst this
      exact r.dj.ow i l t ds b c cs hi q2 hs e4 e5
    · rw [List.getElem?_set_ne (Ne.symm n2)] at e3
      exact r.dj.ow k l u ds b c cs q1 q2 e3 e4 e5
  · rcases back l _ e2 with ⟨_, z⟩ | ⟨_, m2, q2⟩
    · cases z
    rw [List.getElem?_set_ne (Ne.symm m2)] at e4
    rcases back k _ e1 with ⟨rfl, z⟩ | ⟨_, n2, q1⟩
    · cases z
      have := at_j _ e3
      subst this
      exact r.dj.dc i l t ds b c cs hi q2 hs e4 e5
    · rw [List.getElem?_set_ne (Ne.symm n2)] at e3
      exact r.dj.dc k l u ds b c cs q1 q2 e3 e4 e5
  · rcases back k _ e1 with ⟨rfl, z⟩ | ⟨k1, n2, q1⟩
    · cases z
      have := at_j _ e3
      subst this
      rcases back l _ e2 with ⟨rfl, _⟩ | ⟨m1, m2, q2⟩
      · exact absurd rfl n
      rw [List.getElem?_set_ne (Ne.symm m2)] at e4
      exact r.dj.cp i l t v b c cs es (Ne.symm m1) hi q2 hs e4 e5 e6
    · rw [List.getElem?_set_ne (Ne.symm n2)] at e3
      rcases back l _ e2 with ⟨rfl, z⟩ | ⟨m1, m2, q2⟩
      · cases z
        have := at_j _ e4
        subst this
        exact r.dj.cp k i u t b c cs es k1 q1 hi e3 hs e5 e6
      · rw [List.getElem?_set_ne (Ne.symm m2)] at e4
        exact r.dj.cp k l u v b c cs es n q1 q2 e3 e4 e5 e6
/-- what no slot holds is taken in as a part -/
structure Apart (K : PySem.W.Frag) (F0 H0 : Hp) (ρ : Rho) (σ : L2.St) (F H : Hp) (y : Addr) : Prop where
  h0 : H0 y = none
  f : F y = none
  ow : ∀ (j : Nat) (ds : List PyData), ρ[j]? = some (some (.ow ds)) → σ[j]? ≠ some (some (.ref y))
  dc : ∀ (j : Nat) (kvs : List (Int × Int)), ρ[j]? = some (some (.dc kvs)) → σ[j]? ≠ some (some (.ref y))
  cp : ∀ (j : Nat) (u : Cp) (b : Addr) (es : List Addr), ρ[j]? = some (some (.cp u)) → σ[j]? = some (some (.ref b)) → CpOk K F H b es u → y ∉ es
theorem SRel.growC {i : Nat} {a : Addr} {cs cs' : List Addr} {t t' : Cp} {H' : Hp} (r : SRel K F0 H0 ρ σ F H) (hi : ρ[i]? = some (some (.cp t))) (hs : σ[i]? = some (some (.ref a))) (g : CpOk K F H a cs t) (g' : CpOk K F H' a cs' t') (ga : CpAt F0 a t → CpAt F0 a t')
    (hc : ∀ y ∈ cs', y ∈ cs ∨ Apart K F0 H0 ρ σ F H y) (ho : ∀ y, y ∉ cs' → H' y = H y) (hsub : ∀ y ∈ cs, y ∈ cs') : SRel K F0 H0 (ρ.set i (some (.cp t'))) σ F H' := by
  obtain ⟨b, cs0, e, hn, g0, ga0⟩ := r.sl i _ hi
  rw [hs] at e; cases e
  have := g0.uq g rfl
  subst this
  have hn' : ∀ y ∈ cs', H0 y = none ∧ F y = none := fun y hy => by
    rcases hc y hy with h | h
    · exact hn y h
    · exact ⟨h.h0, h.f⟩
  have sm : ∀ {G : Hp}, (∀ y ∈ cs', G y = none) → Same G H → Same G H' := fun {G} hG hS y o q => by
    have : y ∉ cs' := fun hm => by rw [hG y hm] at q; cases q
    rw [ho y this]; exact hS y o q
  have notC : ∀ (j : Nat) (u : Cp) (b : Addr) (es : List Addr), i ≠ j → ρ[j]? = some (some (.cp u)) → σ[j]? = some (some (.ref b)) → CpOk K F H b es u → ∀ y ∈ es, y ∉ cs' := fun j u b es n h1 h2 gu y hy hm => by
    rcases hc y hm with h | h
    · exact r.dj.cp i j t u a b cs es n hi h1 hs h2 g gu y h hy
    · exact h.cp j u b es h1 h2 gu hy
  have keepA : ∀ (j : Nat) (u : Cp) (b : Addr), i ≠ j → ρ[j]? = some (some (.cp u)) → σ[j]? = some (some (.ref b)) → ∃ es, CpOk K F H b es u ∧ (∀ y ∈ es, H' y = H y) ∧ H' b = H b := fun j u b n h1 h2 => by
    obtain ⟨b', es, e, _, gu, _⟩ := r.sl j _ h1
    rw [h2] at e; cases e
    refine ⟨es, gu, fun y hy => ho y (notC j u b es n h1 h2 gu y hy), ho b fun hm => ?_⟩
    cases u with
    | ol dss =>
      obtain ⟨bs, ee, _⟩ := id gu
      exact notC j _ b es n h1 h2 gu b (by rw [ee]; exact List.mem_cons_self) hm
    | dn kvs =>
      obtain ⟨nkv, ee, _⟩ := id gu
      exact notC j _ b es n h1 h2 gu b (by rw [ee]; exact List.mem_cons_self) hm
    | yd p st k =>
      obtain ⟨C, dx, l, vs, _, _, _, hF, _⟩ := id gu
      rw [(hn' b hm).2] at hF; cases hF
  refine ⟨⟨r.fz.ff, sm (fun y hy => (hn' y hy).1) r.fz.hh, sm (fun y hy => (hn' y hy).2) r.fz.fh, r.fz.nw⟩, by rw [List.length_set, r.ln], fun j sv e => ?_, fun j k ds es n e1 e2 => ?_, ⟨fun j k u ds b c es e1 e2 e3 e4 e5 => ?_, fun j k u ds b c es e1 e2 e3 e4 e5 => ?_, fun j k u v b c es fs n e1 e2 e3 e4 e5 e6 => ?_⟩⟩
  · rcases set_some e with ⟨rfl, q, hl⟩ | ⟨n, q⟩
    · cases q
      exact ⟨a, cs', hs, hn', g', ga ga0⟩
    · have z := r.sl j sv q
      cases sv with
      | fr d => exact z
      | sh ds => exact z
      | ob b => exact z
      | pr p => exact z
      | dc kvs =>
        obtain ⟨c, e', h0', hf', hh'⟩ := z
        have nc : c ∉ cs' := fun hm => by
          rcases hc c hm with h | h
          · exact r.dj.dc i j t kvs a c cs hi q hs e' g h
          · exact h.dc j kvs q e'
        exact ⟨c, e', h0', hf', by rw [ho c nc]; exact hh'⟩
      | ow ds =>
        obtain ⟨c, us, e', h0', hf', hh', hd'⟩ := z
        have nc : c ∉ cs' := fun hm => by
          rcases hc c hm with h | h
          · exact r.dj.ow i j t ds a c cs hi q hs e' g h
          · exact h.ow j ds q e'
        exact ⟨c, us, e', h0', hf', by rw [ho c nc]; exact hh', hd'⟩
      | cp u =>
        obtain ⟨c, es, e', h1, gu, gua⟩ := z
        obtain ⟨es', gu', hk, hk2⟩ := keepA j u c n q e'
        have := gu.uq gu' rfl
        subst this
        exact ⟨c, es', e', h1, gu'.mv hk2 hk (.refl _), gua⟩
  · rcases set_some e1 with ⟨_, q, _⟩ | ⟨n1, q1⟩
    · cases q
    rcases set_some e2 with ⟨_, q, _⟩ | ⟨n2, q2⟩
    · cases q
    exact r.df j k ds es n q1 q2
  · rcases set_some e2 with ⟨_, q, _⟩ | ⟨n2, q2⟩
    · cases q
    rcases set_some e1 with ⟨rfl, q, hl⟩ | ⟨n1, q1⟩
    · cases q
      rw [hs] at e3; cases e3
      rw [g'.uq e5 rfl]
      intro hm
      rcases hc c hm with h | h
      · exact r.dj.ow i k t ds a c cs hi q2 hs e4 g h
      · exact h.ow k ds q2 e4
    · obtain ⟨es', gu, hk, hk2⟩ := keepA j u b n1 q1 e3
      rw [gu.uq e5 hk2]
      exact r.dj.ow j k u ds b c es' q1 q2 e3 e4 gu
  · rcases set_some e2 with ⟨_, q, _⟩ | ⟨n2, q2⟩
    · cases q
    rcases set_some e1 with ⟨rfl, q, hl⟩ | ⟨n1, q1⟩
    · cases q
      rw [hs] at e3; cases e3
      rw [g'.uq e5 rfl]
      intro hm
      rcases hc c hm with h | h
      · exact r.dj.dc i k t ds a c cs hi q2 hs e4 g h
      · exact h.dc k ds q2 e4
    · obtain ⟨es', gu, hk, hk2⟩ := keepA j u b n1 q1 e3
      rw [gu.uq e5 hk2]
      exact r.dj.dc j k u ds b c es' q1 q2 e3 e4 gu
  · rcases set_some e1 with ⟨rfl, q, hl⟩ | ⟨n1, q1⟩
    · cases q
      rw [hs] at e3; cases e3
      rcases set_some e2 with ⟨rfl, _, _⟩ | ⟨n2, q2⟩
      · exact absurd rfl n
      obtain ⟨fs', gu, hk, hk2⟩ := keepA k v c n2 q2 e4
      rw [g'.uq e5 rfl, gu.uq e6 hk2]
      exact fun y hy hm => notC k v c fs' n2 q2 e4 gu y hm hy
    · obtain ⟨es', gu, hk, hk2⟩ := keepA j u b n1 q1 e3
      rw [gu.uq e5 hk2]
      rcases set_some e2 with ⟨rfl, q, hl⟩ | ⟨n2, q2⟩
      · cases q
        rw [hs] at e4; cases e4
        rw [g'.uq e6 rfl]
        exact notC j u b es' n1 q1 e3 gu
      · obtain ⟨fs', gv, hk3, hk4⟩ := keepA k v c n2 q2 e4
        rw [gv.uq e6 hk4]
        exact r.dj.cp j k u v b c es' fs' n q1 q2 e3 e4 gu gv
theorem SRel.apart {y : Addr} {H1 : Hp} (r : SRel K F0 H0 ρ σ F H) (x : Fz F H F H1) (hn : H y = none) : Apart K F0 H0 ρ σ F H1 y := by
  refine ⟨r.fz.hh.free hn, r.same.free hn, fun j ds q z => ?_, fun j kvs q z => ?_, fun j u b es h1 h2 h3 => r.newp x hn j u b es h1 h2 h3⟩
  · obtain ⟨c, us, e, _, _, h3, _⟩ := r.sl j _ q
    rw [e] at z; cases z
    rw [hn] at h3; cases h3
  · obtain ⟨c, e, _, _, h3⟩ := r.sl j _ q
    rw [e] at z; cases z
    rw [hn] at h3; cases h3
end
section
variable {X : Cx} {xc : Nat → Addr} {W : WX} {g1 g2 : Rho → RE (List PyData × Int)} {i j : Nat} {st s1 s2 : Stmt} {sts : List Stmt} {gs : Rho → RS} {pos : Pos} {fdp : (List PyData × Int) → RE (List PyData × Int)}
/-- x, y = C(..), C(..) -/
def dParMk (i j : Nat) (g1 g2 : Rho → RE (List PyData × Int)) : Rho → RS := stE g1 fun s1 => stE g2 fun s2 ρ => if i = j then .bad else .ok (.nx ((ρ.set i (some (.cp (.yd false s1.1 s1.2)))).set j (some (.cp (.yd false s2.1 s2.2)))))
theorem yC.stm {K : PySem.W.Frag} {D : Ends} {F0 H0 F H : Hp} {ρ : Rho} {σ : L2.St} {f : List PyData × Int → Rho → RS} {Q : VK} (r : SRel K F0 H0 ρ σ F H) (hg : Good K xc W D F0 H0 F (stE g1 f ρ)) (h : ∀ s, ∀ a l F2 H2, Fz F H F2 H2 → NewY K H F2 H2 a l s → Good K xc W D F0 H0 F2 (f s ρ) → Q (.ref a) H2) : yC K xc W g1 σ H Q := by
  unfold stE at hg
  refine ⟨F0, H0, ρ, F, r, fun z => hg.nb (by rw [z]), fun d e a l F2 H2 x kk => ?_, fun x e cls dd F2 H2 z q => ?_⟩
  · rw [e] at hg
    exact h d a l F2 H2 x kk (hg.mono x.ff)
  · rw [e] at hg
    exact hg.ex x ρ rfl cls dd σ F2 H2 z.ff (r.step z) q
theorem ds_parMk (h : PS X st (tPar i j (tCons (yC X.K xc W g1) (tCons (yC X.K xc W g2) tNil)))) : DS1 X xc W st (dParMk i j g1 g2) := PS.imp h fun D σ H ⟨F0, H0, ρ, F, r, hg⟩ => by
  show yC X.K xc W g1 σ H (fun v H1 => yC X.K xc W g2 σ H1 (fun w H2 => ∃ v' w', [v, w] = [v', w'] ∧ D.nx ((σ.set i (some v')).set j (some w')) H2))
  refine yC.stm r hg fun s1 a1 l1 F1 H1 x1 ny1 hg1 => ?_
  obtain ⟨F1', fz1, s1', fl1, gc1⟩ := ny1.frz x1 false
  obtain ⟨_, _, _, _, _, nl1, _⟩ := id ny1
  refine yC.stm (r.step fz1) (hg1.mono s1') fun s2 a2 l2 F2 H2 x2 ny2 hg2 => ?_
  obtain ⟨F2', fz2, s2', fl2, gc2⟩ := ny2.frz x2 false
  obtain ⟨_, _, _, _, _, nl2, _⟩ := id ny2
  by_cases hij : i = j
  · rw [if_pos hij] at hg2; exact absurd rfl hg2.nb
  · rw [if_neg hij] at hg2
    have ra := r.setC (i := i) (cs := [l1]) fz1 (fun y hy => by rw [List.mem_singleton.mp hy]; exact ⟨nl1, fl1⟩) gc1 trivial
    have rb := ra.setC (i := j) (cs := [l2]) fz2 (fun y hy => by rw [List.mem_singleton.mp hy]; exact ⟨nl2, fl2⟩) gc2 trivial
    exact ⟨.ref a1, .ref a2, rfl, hg2.nx _ rfl _ F2' H2 s2' rb⟩
/-- y = x; x = x.duplicate() -/
def dDupMove (i j : Nat) (f : (List PyData × Int) → RE (List PyData × Int)) : Rho → RS := fun ρ => match ρ[i]? with
  | some (some (.cp (.yd p st k))) => (match f (st, k) with
    | .ok s => if i = j then .bad else .ok (.nx ((ρ.set j (some (.cp (.yd p st k)))).set i (some (.cp (.yd false s.1 s.2)))))
    | _ => .bad)
  | _ => .bad
theorem ds_dupMove (h1 : PS X s1 (tAsg (tVar i) (gName j))) (h2 : PS X s2 (tAsg (yC X.K xc W (dDup fdp i)) (gName i))) (h3 : DS X xc W sts gs) : DS X xc W (s1 :: s2 :: sts) (dThen (dDupMove i j fdp) gs) := PSs.imp (pss_cons h1 (pss_cons h2 h3)) fun D σ H ⟨F0, H0, ρ, F, r, hg⟩ => by
  have hg : Good X.K xc W D F0 H0 F ((dDupMove i j fdp ρ).bind fun f => match f with | .nx ρ' => gs ρ' | .rt d => .ok (.rt d) | .ry d ρ' => .ok (.ry d ρ')) := hg
  unfold dDupMove at hg
  split at hg
  · rename_i p st k q
    cases e : fdp (st, k) with
    | bad => rw [e] at hg; exact absurd rfl hg.nb
    | ex y => rw [e] at hg; exact absurd rfl hg.nb
    | ok s =>
      rw [e] at hg
      dsimp only at hg
      by_cases hij : i = j
      · rw [if_pos hij] at hg; exact absurd rfl hg.nb
      rw [if_neg hij] at hg
      obtain ⟨a, cs, ea, _, gc, _⟩ := r.sl i _ q
      refine ⟨.ref a, ea, ?_⟩
      have rn : SRel X.K F0 H0 (ρ.set j none) (σ.set j (some (.ref a))) F H := r.setN
      have qi : (ρ.set j none)[i]? = some (some (.cp (.yd p st k))) := by rw [List.getElem?_set_ne (Ne.symm hij)]; exact q
      have ed : dDup fdp i (ρ.set j none) = .ok s := by unfold dDup; rw [qi]; exact e
      refine ⟨F0, H0, ρ.set j none, F, rn, (by rw [ed]; intro z; cases z), fun s' es a' l' F2 H2 x2 ny => ?_, (fun x ex => by rw [ed] at ex; cases ex)⟩
      rw [ed] at es; cases es
      obtain ⟨F3, fz, s3, fl, gc2⟩ := ny.frz x2 false
      obtain ⟨_, _, _, _, _, nl, _⟩ := id ny
      have rm := r.moveC (j := j) q ea hij
      have rs := rm.setC (i := i) (cs := [l']) fz (fun y hy => by rw [List.mem_singleton.mp hy]; exact ⟨nl, fl⟩) gc2 trivial
      have ee : (((ρ.set i none).set j (some (.cp (.yd p st k)))).set i (some (.cp (.yd false s.1 s.2)))) = (ρ.set j (some (.cp (.yd p st k)))).set i (some (.cp (.yd false s.1 s.2))) := by
        rw [List.set_comm _ _ hij, List.set_set]
      rw [ee] at rs
      exact ⟨F0, H0, _, F3, rs, hg.mono fz.ff⟩
  · exact absurd rfl hg.nb
/-- x.append([]) -/
def dOlNew (i : Nat) : Rho → RS := fun ρ => match ρ[i]? with
  | some (some (.cp (.ol dss))) => if dss.length < lim then .ok (.nx (ρ.set i (some (.cp (.ol (dss ++ [[]])))))) else .bad
  | _ => .bad
theorem ds_olNew (h : PS X st (tDrop (tBM X.K "list" rAppend (tVar i) (tCons (tLst tNil) tNil)))) : DS1 X xc W st (dOlNew i) := PS.imp h fun D σ H ⟨F0, H0, ρ, F, r, hg⟩ => by
  have hg : Good X.K xc W D F0 H0 F (match ρ[i]? with | some (some (.cp (.ol dss))) => if dss.length < lim then .ok (.nx (ρ.set i (some (.cp (.ol (dss ++ [[]])))))) else .bad | _ => .bad) := hg
  split at hg
  · rename_i dss q
    obtain ⟨a, cs, ea, hn, gc, _⟩ := r.sl i _ q
    obtain ⟨bs, ecs, nd, h1, h2, h3⟩ := id gc
    by_cases hl : dss.length < lim
    · rw [if_pos hl] at hg
      refine ⟨.ref a, ea, tyV_lst (SqL.of h1), Nat.zero_le _, fun p hp => ?_⟩
      have nap : a ≠ p := ne_of_none h1 hp
      refine ⟨a, bs.map V.ref, .ref p, rfl, rfl, by rw [upd_ne nap]; exact h1, by rw [List.length_map, h2]; exact Nat.lt_of_lt_of_le hl lim_le, hg.nx _ rfl _ F _ (.refl _) ?_⟩
      have x : Fz F H F (upd H p (.lst [])) := .own r.same hp
      have r1 := r.step x
      have ap := r.apart x hp
      have pcs : p ∉ cs := fun hm => by
        obtain ⟨o, ho⟩ := gc.at p hm
        rw [hp] at ho; cases ho
      have gc1 : CpOk X.K F (upd H p (.lst [])) a cs (.ol dss) := gc.mv (upd_ne nap) (fun y hy => upd_ne fun (z : y = p) => pcs (z ▸ hy)) (.refl _)
      have em : (bs.map V.ref) ++ [V.ref p] = (bs ++ [p]).map V.ref := by simp
      rw [em]
      refine r1.growC (cs' := cs ++ [p]) q ea gc1 ⟨bs ++ [p], by rw [ecs]; rfl, ?_, upd_same, by simp [h2], fun k b ds hb hd => ?_⟩ (fun _ => trivial) (fun y hy => ?_) (fun y hy => upd_ne fun z => hy (by rw [z, ecs]; simp)) (fun y hy => List.mem_append_left _ hy)
      · rw [List.nodup_append]
        exact ⟨nd, by simp, fun y hy z hz => by rw [List.mem_singleton.mp hz]; exact fun w => pcs (w ▸ hy)⟩
      · by_cases hk : k < bs.length
        · rw [List.getElem?_append_left hk] at hb
          rw [List.getElem?_append_left (by omega)] at hd
          obtain ⟨vs, g1, g2⟩ := h3 k b ds hb hd
          have nb : b ≠ p := ne_of_none g1 hp
          have nab : b ≠ a := fun z => by
            rw [ecs] at nd
            exact (List.nodup_cons.1 nd).1 (z ▸ List.mem_of_getElem? hb)
          exact ⟨vs, by rw [upd_ne nab, upd_ne nb]; exact g1, g2⟩
        · have hkl := (List.getElem?_eq_some_iff.mp hb).1
          have ek : k = bs.length := by simp at hkl; omega
          subst ek
          rw [List.getElem?_append_right (Nat.le_refl _)] at hb
          rw [List.getElem?_append_right (by omega)] at hd
          simp at hb
          have : bs.length - dss.length = 0 := by omega
          rw [this] at hd
          simp at hd
          subst hb hd
          exact ⟨[], by rw [upd_ne nap.symm]; exact upd_same, .nil⟩
      · rcases List.mem_append.mp hy with h | h
        · exact .inl h
        · rw [List.mem_singleton.mp h]; exact .inr ap
    · rw [if_neg hl] at hg; exact absurd rfl hg.nb
  · exact absurd rfl hg.nb
end
end VS
end
section
set_option Elab.async false
set_option linter.all false
set_option maxRecDepth 100000
set_option autoImplicit false
namespace VS
open PySem PySem.Spec PyProof.Rows L2
/-- x = e if t else x, x one's own list -/
def dIfKeep (i : Nat) (t : Rho → RE Bool) (g : Rho → RE PyData) : Rho → RS := dIfS t (dSetN i g) (fun ρ => match ρ[i]? with
  | some (some (.ow ds)) => .ok (.nx ρ)
  | _ => .bad)
theorem set_id {α : Type} : ∀ {l : List α} {i : Nat} {x : α}, l[i]? = some x → l.set i x = l
  | [], _, _, h => by simp at h
  | y :: l, 0, x, h => by simp at h; subst h; rfl
  | y :: l, i + 1, x, h => by
    rw [List.set_cons_succ, set_id (by simpa using h)]
theorem ds_ifKeep {X : Cx} {xc : Nat → Addr} {W : WX} {st : Stmt} {i : Nat} {gt : Rho → RE Bool} {g : Rho → RE PyData} (h : PS X st (tAsg (tIf (tC' X.K xc W gt) (eC X.K xc W kN g) (tVar i)) (gName i))) : DS1 X xc W st (dIfKeep i gt g) := PS.imp h fun D σ H ⟨F0, H0, ρ, F, r, hg⟩ => by
  show tC' X.K xc W gt σ H (fun c H1 => if c = true then eC X.K xc W kN g σ H1 (fun v H2 => D.nx (σ.set i (some v)) H2) else tVar i σ H1 (fun v H2 => D.nx (σ.set i (some v)) H2))
  refine tC'.st (f := fun b ρ => cond b (dSetN i g ρ) ((fun ρ => match ρ[i]? with | some (some (.ow ds)) => .ok (.nx ρ) | _ => .bad) ρ)) r hg fun b F2 H2 x r2 g2 => ?_
  cases b with
  | true =>
    rw [if_pos rfl]
    have g2 : Good X.K xc W D F0 H0 F2 (stE g (fun d ρ => match d with | .list ds => .ok (.nx (ρ.set i (some (.ow ds)))) | _ => .bad) ρ) := g2
    exact eC.st r2 g2 fun d v F3 H3 x3 r3 kk g3 => by
      obtain ⟨a, vs, ds, rfl, rfl, h1, h2, h3, h4⟩ := kk
      exact g3.nx _ rfl _ F3 H3 (.refl _) (r2.setNew x3 h1 h2 h3 h4)
  | false =>
    rw [if_neg Bool.false_ne_true]
    have g3 : Good X.K xc W D F0 H0 F2 (match ρ[i]? with | some (some (.ow ds)) => .ok (.nx ρ) | _ => .bad) := g2
    split at g3
    · rename_i ds q
      obtain ⟨a, vs, e, _⟩ := r2.sl i _ q
      refine ⟨_, e, ?_⟩
      show D.nx (σ.set i (some (V.ref a))) H2
      rw [set_id e]
      exact g3.nx _ rfl _ F2 H2 (.refl _) r2
    · exact absurd rfl g3.nb
end VS
end
section
set_option Elab.async false
set_option linter.all false
set_option maxRecDepth 100000
set_option autoImplicit false
namespace VS
open PySem PySem.Spec PyProof.Rows L2
/-! ### text.split(sep), text.index(sign) -/
def splitD (a : Str) : PyData → Option PyData
  | .str b => if (b.length == 0) = false ∧ a.length + 2 ≤ lim then some (.list ((Txt.split a b).map .str)) else none
  | _ => none
def dSplit (go g : Rho → RE PyData) : Rho → RE PyData := onStr go fun a ρ => (g ρ).bind fun d => R.of (splitD a d)
def sindexD (a : Str) : PyData → Option PyData
  | .str b => (Builtin.Str.occurrences a b 0 a.length 1).head?.map fun i => .int (i : Nat)
  | _ => none
def dIndexS (go g : Rho → RE PyData) : Rho → RE PyData := onStr go fun a ρ => (g ρ).bind fun d => R.of (sindexD a d)
theorem dqa_ofStrs {K : PySem.W.Frag} {H : Hp} : ∀ ys : List Str, DqAll K H (ys.map V.str) (ys.map .str)
  | [] => .nil
  | y :: ys => .cons (.str y) (dqa_ofStrs ys)
section
variable {X : Cx} {xc : Nat → Addr} {W : WX} {o e : Expr} {go g : Rho → RE PyData} {pos apos : Pos}
theorem de_split (ho : DE X xc W kE o go) (he : DE X xc W kE e g) (hs : starEach [e] X.env = [(false, eval e X.env)] := by rfl) (hbase : attributeBase o "split" X.env (eval o X.env) = eval o X.env := by rfl) (hline : (apos.endLine == pos.line) = true := by rfl) :
    DE X xc W kN (.Call (.Attribute o "split" apos) [e] [] pos) (dSplit go g) := PE.imp (pe_split ho he hs hbase hline) fun σ H Q ⟨F0, H0, ρ, F, r, hbd, hq, hx⟩ => by
  refine eC.go r hbd hx fun d ed v F1 H1 x1 r1 k1 hb1 hx1 => ?_
  cases d with
  | str a =>
    refine ⟨⟨a, k1.str⟩, eC.go r1 hb1 hx1 fun d2 ed2 v2 F2 H2 x2 r2 k2 hb2 hx2 => ?_⟩
    obtain ⟨z, ez⟩ := R.of_ne_bad hb2
    have eq : dSplit go g ρ = .ok z := by
      show (go ρ).bind _ = _
      rw [ed, R.bind_ok]
      show (g ρ).bind _ = _
      rw [ed2, R.bind_ok, ez]
      rfl
    cases d2 with
    | str b =>
      have ez2 : (if (b.length == 0) = false ∧ a.length + 2 ≤ lim then some (PyData.list ((Txt.split a b).map .str)) else none) = some z := ez
      split at ez2
      · rename_i hl
        cases ez2
        refine ⟨a, b, k1.str, by rw [k2.str], hl.1, Nat.le_trans hl.2 (by decide), fun p hp => ?_⟩
        exact hq _ eq _ F2 _ (x1.trans (x2.trans (.own r2.same hp))) ⟨p, _, _, rfl, rfl, x1.hh.free (x2.hh.free hp), r2.same.free hp, upd_same, dqa_ofStrs _⟩
      · cases ez2
    | _ => cases ez
  | _ => exact absurd rfl hb1
theorem de_indexS (ho : DE X xc W kE o go) (he : DE X xc W kE e g) (hs : starEach [e] X.env = [(false, eval e X.env)] := by rfl) (hbase : attributeBase o "index" X.env (eval o X.env) = eval o X.env := by rfl) (hline : (apos.endLine == pos.line) = true := by rfl) :
    DE X xc W kF (.Call (.Attribute o "index" apos) [e] [] pos) (dIndexS go g) := PE.imp (pe_m1 F.slot_str_index F.type_str_index mt_sindex ho he hs hbase hline) fun σ H Q ⟨F0, H0, ρ, F, r, hbd, hq, hx⟩ => by
  refine eC.go r hbd hx fun d ed v F1 H1 x1 r1 k1 hb1 hx1 => ?_
  cases d with
  | str a =>
    refine ⟨⟨a, k1.str⟩, eC.go r1 hb1 hx1 fun d2 ed2 v2 F2 H2 x2 r2 k2 hb2 hx2 => ?_⟩
    obtain ⟨z, ez⟩ := R.of_ne_bad hb2
    have eq : dIndexS go g ρ = .ok z := by
      show (go ρ).bind _ = _
      rw [ed, R.bind_ok]
      show (g ρ).bind _ = _
      rw [ed2, R.bind_ok, ez]
      rfl
    cases d2 with
    | str b =>
      have ez2 : ((Builtin.Str.occurrences a b 0 a.length 1).head?.map fun i => PyData.int (i : Nat)) = some z := ez
      cases q : Builtin.Str.occurrences a b 0 a.length 1 with
      | nil => rw [q] at ez2; cases ez2
      | cons i rest =>
        rw [q] at ez2
        cases ez2
        exact ⟨a, b, i, rest, k1.str, by rw [k2.str], q, hq _ eq _ F2 H2 (x1.trans x2) (.int _)⟩
    | _ => cases ez
  | _ => exact absurd rfl hb1
end
end VS
end
section
set_option Elab.async false
set_option linter.all false
set_option maxRecDepth 100000
set_option maxHeartbeats 4000000
set_option autoImplicit false
namespace VS
open PySem PySem.Spec PyProof.Rows L2
/-! ### an exception with a line -/
/-- what the text says of LaneError, called for its __init__ -/
structure LeT (K : PySem.W.Frag) (mg : Str → Option Value) (C : Addr) : Prop where
  g : mg "LaneError" = some (.ref C)
  ty : PySem.W.typeIn K (.ref C) = some (.type "type")
  rd : PySem.W.readsIn K C (.type "type") = true
  ga : PySem.W.specialIn K (.ref C) "__getattribute__" = some (some (.builtin "type.__getattribute__"))
  fi : PySem.W.findCls K (.ref C) (.type "type") "__init__" = some (.val (.builtin "ValueError.__init__"))
/-- what it says of ParseError -/
structure PeT (K : PySem.W.Frag) (mg : Str → Option Value) (C fI : Addr) (fd : FuncData) : Prop where
  g : mg "ParseError" = some (.ref C)
  T : OexC K C
  ln : PySem.W.findIn K (.ref C) "line" = some none
  iC : PySem.W.findIn K (.ref C) "__init__" = some (some (.ref fI))
  tI : PySem.W.typeIn K (.ref fI) = some (.type "function")
  B : Binds K fd ["self", "line"] []
structure PgT (K : PySem.W.Frag) (mg : Str → Option Value) (x : Str) (C : Addr) : Prop where
  g : mg x = some (.ref C)
section
variable {X : Cx} {o e : Expr} {es : List Expr} {to te : TE} {ta : TA} {f : Str} {p p' p1 p2 pos : Pos} {C : Addr}
theorem pe_leinit {pl : Sem Bool} (hg : Gl X "LaneError") (T0 : LeT X.K X.mg C) (ha : PA X (e :: es) ta)
    (hc : eval (.Call (.Attribute (.Name "LaneError" p1) "__init__" p2) (e :: es) [] pos) X.env = (do
      let ov ← eval (.Name "LaneError" p1) X.env
      standAt p2.atName
      let (f, first) ← holding [ov] (getMethod ov "__init__" pl)
      callWith pos f first (backTo pos (starEach (e :: es) X.env)) (backToKw pos (keywordEach [] X.env))) := by rfl)
    (he : starEach (e :: es) X.env = (false, eval e X.env) :: starEach es X.env := by rfl) (hpl : (backTo pos (starEach es X.env)).any (·.1) = false := by rfl) :
    PE X (.Call (.Attribute (.Name "LaneError" p1) "__init__" p2) (e :: es) [] pos) (tVeI X.K ta) := by
  refine ⟨fun pins s σ H Q I h => ?_⟩
  refine PySem.W.methodCall_KW (ld_glob I hg T0.g ?_ (by decide)) hc
  obtain ⟨m, fr⟩ := I.fr
  refine PySem.W.method_of_cls fr I.ok.mod.kin T0.ga ?_
  refine PySem.W.cls_val fr I.ok.mod.kin T0.ty T0.rd T0.fi (by decide +kernel) ?_
  show wpAny _ _ (callWith pos (Value.builtin "ValueError.__init__") [] (backTo pos (starEach (e :: es) X.env)) []) _ _ _
  refine PyProof.Rows.callWith_method1 (thn (ha.run pos pins _ σ H _ (I.tok _) h) fun us s1 ⟨vs, H1, I1, r1, a, C, ws, ev, hl, T, ea, q⟩ => ?_) he hpl
  subst ev
  cases r1 with
  | @cons _ u0 _ ur ra rw' =>
    obtain rfl : u0 = Value.ref a := ra
    have hlen : ur.length ≤ sizeLine := by
      rw [← Paired.length rw', sizeLine_eq]
      omega
    exact oinit_ok T I1 ea hlen fun s' J => ⟨.non, H1, J, rfl, q⟩
end
/-- what ParseError.__init__ promises -/
def spX (K : PySem.W.Frag) : Sp := fun vs H Q _ => ∃ (a C : Addr) (v : V), vs = [.ref a, v] ∧ OexC K C ∧ PySem.W.findIn K (.ref C) "line" = some none ∧ H a = some (exo a C none) ∧
  ∀ dx, H dx = none → dx ≠ a → Q .non (upd (upd H dx (exd dx [("line", v)])) a (exo a C (some dx)))
section
variable {P : Program} {w : World} {K : PySem.W.Frag} {mg : Str → Option Value} {base : Heap} {xc : Nat → Addr} {x qual : Str} {st : Stmt} {f : Addr} {fd : FuncData} {N ps : List Str} {m : Nat} {t2 : TE}
theorem fn_okX (F : Fun K x qual st f fd) (S : FnScope N ps (defScope st)) (hps : ps.length = 2) (hN : N.length = 2)
    (body : ∀ (cdv : Value) (A : Around) (outer : List Env) (s : Shared) (H : Hp) (E : XK), Room (m + 1) (cxOf (L2.CX P w) P w K mg base N qual (defScope st) f cdv A outer s H E).A →
      PSs (cxOf (L2.CX P w) P w K mg base N qual (defScope st) f cdv A outer s H E) (defBody st) (tSeq (tDrop (tVeI K (tCons (tVar 0) (tCons t2 tNil)))) (tOst K "line" (tVar 0) (tVar 1))))
    (ht2 : ∀ σ H Q, (∀ v, Q v H) → t2 σ H Q) :
    FnOk P w K mg base (L2.CX P w) (m + 2) f fd ps (spX K) := by
  refine F.okX S (fun vs H Q E h => ?_) (fun cdv A outer s H vs Q E hr h => ?_)
  · obtain ⟨a, C, v, rfl, _⟩ := h
    rw [hps]; rfl
  · obtain ⟨a, C, v, rfl, T, hno, ha, hq⟩ := h
    refine ⟨_, body cdv A outer s H E hr, ?_⟩
    have hst : start N [V.ref a, v] = [some (.ref a), some v] := by
      show [V.ref a, v].map some ++ List.replicate (N.length - 2) none = _
      rw [hN]; rfl
    rw [hst]
    refine ⟨.ref a, rfl, ht2 _ _ _ fun z => ⟨a, C, [z], rfl, by simp, T, ha, ?_⟩⟩
    exact ⟨v, rfl, .ref a, rfl, a, C, rfl, T, hno, .inl ⟨ha, fun dx h1 h2 => hq dx h1 h2⟩⟩
end
def dRaiseA (n : Nat) (g : Rho → RE PyData) : Rho → RS := stE g fun d ρ => .ex (⟨n, some d⟩, ρ)
section
variable {X : Cx} {xc : Nat → Addr} {W : WX} {st : Stmt} {g : Rho → RE PyData} {C fI : Addr} {fd : FuncData} {n : Nat}
theorem ds_raiseA (hC : xc n = C) (T : PeT X.K X.mg C fI fd) (h : PS X st (fun _ σ H => tMkO C (spX X.K) [] (tCons (eC X.K xc W kF g) tNil) σ H fun cls d H' => W cls d σ H')) : DS1 X xc W st (dRaiseA n g) := PS.imp h fun D σ H ⟨F0, H0, ρ, F, r, hg⟩ => by
  have hg : Good X.K xc W D F0 H0 F (stE g (fun d ρ => .ex (⟨n, some d⟩, ρ)) ρ) := hg
  refine eC.st r hg fun d v F2 H2 x r2 kk g2 => ?_
  refine ⟨by simp, fun a ha => ⟨a, C, v, rfl, T.T, T.ln, upd_same, fun dx h1 h2 => ?_⟩⟩
  have hdx : H2 dx = none := by rw [upd_ne h2] at h1; exact h1
  refine ⟨rfl, dx, [("line", v)], upd_same, by rw [upd_ne h2, upd_same], hdx, ?_⟩
  have eq : upd (del (upd (upd (upd H2 a (exo a C none)) dx (exd dx [("line", v)])) a (exo a C (some dx))) a) dx (.xd [("line", v)]) = upd H2 dx (.xd [("line", v)]) := by
    funext b
    by_cases hb : b = dx
    · rw [hb, upd_same, upd_same]
    · rw [upd_ne hb, upd_ne hb]
      by_cases hb2 : b = a
      · rw [hb2, del_same, ha]
      · rw [del_ne hb2, upd_ne hb2, upd_ne hb, upd_ne hb2]
  rw [eq]
  exact g2.ex ⟨n, some d⟩ ρ rfl (.ref C) (some dx) σ (upd F2 dx (.xd [("line", v)])) (upd H2 dx (.xd [("line", v)])) (same_upd (r2.same.free hdx)) (r2.step (.new r2.same hdx)) ⟨by rw [hC], dx, v, rfl, upd_same, dp_mono (same_upd (r2.same.free hdx)) kk⟩
end
section
variable {X : Cx} {xc : Nat → Addr} {W : WX} {e : Expr} {g : Rho → RE PyData} {C fI : Addr} {fd : FuncData} {n k : Nat} {p pos pos2 : Pos}
theorem ds_raiseP (hC : xc n = C) (T : PeT X.K X.mg C fI fd) (F1 : FnOk X.prog X.w X.K X.mg X.base (L2.CX X.prog X.w) k fI fd ["self", "line"] (spX X.K)) (hr : Room (k + 1) X.A) (hc : X.calm = true) (tk : Takes X W) (hg : Gl X "ParseError") (ha : DE X xc W kF e g)
    (he : starEach [e] X.env = (false, eval e X.env) :: starEach [] X.env := by rfl) (hpl : (backTo pos (starEach [] X.env)).any (·.1) = false := by rfl) :
    DS1 X xc W (.Raise (some (.Call (.Name "ParseError" p) [e] [] pos)) none pos2) (dRaiseA n g) :=
  ds_raiseA hC T (ps_raise hc tk (pmk_oex T.T T.iC T.tI F1 hr T.B .nil (passes_call tk fun _ _ _ _ z => z.elim) hg T.g (pa_cons ha pa_nil he) (by decide) he hpl))
end
/-- e.line, where e is known -/
def dLineY (i : Nat) (a dd : Addr) (y : Exc) : Rho → RE PyData := match y.arg with
  | none => fun _ => .bad
  | some _ => dLine i a dd
theorem xf_of {K : PySem.W.Frag} {C : Addr} (h : ExcC K C) : XfC K C := ⟨h.hg, h.hk, h.hs, h.hd⟩
section
variable {X : Cx} {xc : Nat → Addr} {W : WX} {a C dd : Addr} {oe : Obj} {pn : List (Addr × Obj)} {e1 : Expr} {i : Nat} {pos : Pos} {d : Option Addr} {y : Exc}
theorem de_lineY (T : XfC X.K C) (hno : PySem.W.findIn X.K (.ref C) "line" = some none) (hz : Zc (.ref C) d oe) (hf : ∃ vs, oe.data = .fields vs) (hd1 : ∀ z, y.arg = some z → d = some dd) (h1 : PE (X.suite a ((a, oe) :: pn)) e1 (tVar i)) (hb : attributeBase e1 "line" X.env (eval e1 X.env) = eval e1 X.env := by rfl) :
    DE (X.suite a ((a, oe) :: pn)) xc W kF (.Attribute e1 "line" pos) (dLineY i a dd y) := by
  unfold dLineY
  cases hy : y.arg with
  | none => exact de_bad
  | some z => exact de_line (n := "line") T hno hz hf hd1 ⟨z, hy⟩ h1 hb
end
theorem lineY_eval (i : Nat) (a dd : Addr) (y : Exc) (ρ : Rho) : dLineY i a dd y (ρ.set i (some (exS a dd y))) = if i < ρ.length then R.of y.arg else .bad := by
  have h := line_eval i a dd y ρ
  unfold dLineY
  cases hy : y.arg with
  | none =>
    rw [hy] at h
    split <;> rfl
  | some z => rw [hy] at h; exact h
end VS
end
section
set_option Elab.async false
set_option linter.all false
set_option maxRecDepth 100000
set_option autoImplicit false
namespace VS
open PySem PySem.Spec PyProof.Rows L2
theorem nk_room {P : Program} {w : World} {A : Around} (hu : A.units + 9 < cLine) : (nestedKind P w).room A.in1 := by
  show A.in1.units + 8 < cLine
  have : A.in1.units = A.units + 1 := rfl
  omega
/-- the value y of the heap is the key k -/
def KeyV (K : PySem.W.Frag) (H : Hp) (y : V) (k : NestedKey) : Prop := Dq K H y k.data ∧ k.depth ≤ 8 ∧ ∃ b, y = .ref b
section
variable {X : Cx} {pins : List (Addr × Obj)} {σ : L2.St} {H : Hp} {s : Shared} {a : Addr} {y v : V} {u r : Value} {A : Around} {E : Value → Shared → Prop} {kvs : NKV} {k : NestedKey}
theorem dn_getItem {Q : Value → Shared → Prop} (hu : A.units + 9 < cLine) (I : Inv X pins σ H s) (e : H a = some (dnO a kvs)) (hk : KeysIn X.K H kvs) (ky : KeyV X.K H y k) (l : atN kvs k = some v) (ry : RelV y u) (h : ∀ w' s', Inv X pins σ H s' → RelV v w' → Q w' s') :
    wpAny (model X.prog X.w) A (getItem (.ref a) u) Q E s := by
  obtain ⟨dk, dp, b, rfl⟩ := ky
  cases (show u = Value.ref b from ry)
  obtain ⟨z, hd, xs, rel, dd⟩ := dn_of I.hok e hk
  obtain ⟨w', hw, rw'⟩ := RelO.some_of (v := v) (o := (atKey xs k).map (·.2)) (by rw [← l]; exact rel.val)
  obtain ⟨p, hp, hp2⟩ := Option.map_eq_some_iff.mp hw
  refine wpAny_getItem_heap (nk_room hu) ⟨nk_is I.hok k dk rfl, dp⟩ dd hp ?_
  rw [hp2]
  exact h w' _ (I.tok _) rw'
theorem dn_in {Q : Value → Shared → Prop} (hu : A.units + 9 < cLine) (I : Inv X pins σ H s) (e : H a = some (dnO a kvs)) (hk : KeysIn X.K H kvs) (ky : KeyV X.K H y k) (ry : RelV y u) (h : ∀ s', Inv X pins σ H s' → Q (.bool (atN kvs k).isSome) s') :
    wpAny (model X.prog X.w) A (compareOp .In u (.ref a)) Q E s := by
  obtain ⟨dk, dp, b, rfl⟩ := ky
  cases (show u = Value.ref b from ry)
  obtain ⟨z, hd, xs, rel, dd⟩ := dn_of I.hok e hk
  refine wpAny_in_heap (nk_room hu) ⟨nk_is I.hok k dk rfl, dp⟩ hd dd ?_
  have q := (rel.val (k := k)).isSome_eq
  rw [Option.isSome_map] at q
  rw [← q]
  exact h _ (I.tok _)
theorem dn_notIn {Q : Value → Shared → Prop} (hu : A.units + 9 < cLine) (I : Inv X pins σ H s) (e : H a = some (dnO a kvs)) (hk : KeysIn X.K H kvs) (ky : KeyV X.K H y k) (ry : RelV y u) (h : ∀ s', Inv X pins σ H s' → Q (.bool (!(atN kvs k).isSome)) s') :
    wpAny (model X.prog X.w) A (compareOp .NotIn u (.ref a)) Q E s := by
  obtain ⟨dk, dp, b, rfl⟩ := ky
  cases (show u = Value.ref b from ry)
  obtain ⟨z, hd, xs, rel, dd⟩ := dn_of I.hok e hk
  refine wpAny_notIn_heap (nk_room hu) ⟨nk_is I.hok k dk rfl, dp⟩ hd dd ?_
  have q := (rel.val (k := k)).isSome_eq
  rw [Option.isSome_map] at q
  rw [← q]
  exact h _ (I.tok _)
end
/-- d[k] = v: the entry's own key stays where it is there -/
def putN (kvs : NKV) (k : NestedKey) (b : Addr) (v : V) : NKV := if (atN kvs k).isSome then kvs.map fun x => if x.1 = k then (x.1, x.2.1, v) else x else kvs ++ [(k, b, v)]
theorem KN.mapP {k : NestedKey} {v : V} {r : Value} (rv : RelV v r) : ∀ {kvs : NKV} {xs : List (NestedKey × Addr × Value)}, KN kvs xs → KN (kvs.map fun x => if x.1 = k then (x.1, x.2.1, v) else x) (xs.map (putAt k r))
  | _, _, .nil => .nil
  | _, _, .cons (a := p) (b := q) hq t => by
    refine .cons ?_ (KN.mapP rv t)
    show (if p.1 = k then (p.1, p.2.1, v) else p).1 = (if q.1 = k then (q.1, q.2.1, r) else q).1 ∧ (if p.1 = k then (p.1, p.2.1, v) else p).2.1 = (if q.1 = k then (q.1, q.2.1, r) else q).2.1 ∧ RelV (if p.1 = k then (p.1, p.2.1, v) else p).2.2 (if q.1 = k then (q.1, q.2.1, r) else q).2.2
    by_cases hp : p.1 = k
    · rw [if_pos hp, if_pos (hq.1 ▸ hp)]
      exact ⟨hq.1, hq.2.1, rv⟩
    · rw [if_neg hp, if_neg (hq.1 ▸ hp)]
      exact hq
theorem KN.put {kvs : NKV} {xs : List (NestedKey × Addr × Value)} {k : NestedKey} {b : Addr} {v : V} {r : Value} (h : KN kvs xs) (rv : RelV v r) : KN (putN kvs k b v) (storedH xs k b r) := by
  have q := (h.val (k := k)).isSome_eq
  rw [Option.isSome_map] at q
  unfold putN storedH
  rw [q]
  split
  · exact KN.mapP rv h
  · exact Paired.snoc h ⟨rfl, rfl, rv⟩
theorem putN_len (kvs : NKV) (k : NestedKey) (b : Addr) (v : V) : (putN kvs k b v).length ≤ kvs.length + 1 := by
  unfold putN
  split
  · rw [List.length_map]; omega
  · rw [List.length_append]; simp
section
variable {X : Cx} {pins : List (Addr × Obj)} {σ : L2.St} {H : Hp} {s : Shared} {a b : Addr} {v : V} {u r : Value} {A : Around} {E : Value → Shared → Prop} {kvs : NKV} {k : NestedKey}
theorem dn_setItem {Q : Unit → Shared → Prop} (hu : A.units + 9 < cLine) (I : Inv X pins σ H s) (e : H a = some (dnO a kvs)) (hk : KeysIn X.K H kvs) (dk : Dq X.K H (.ref b) k.data) (dp : k.depth ≤ 8) (hl : kvs.length < sizeLine) (ry : RelV (.ref b) u) (rv : RelV v r)
    (h : ∀ s', Inv X pins σ (upd H a (dnO a (putN kvs k b v))) s' → Q () s') : wpAny (model X.prog X.w) A (setItem (.ref a) u r) Q E s := by
  cases (show u = Value.ref b from ry)
  obtain ⟨z, hd, xs, rel, dd⟩ := dn_of I.hok e hk
  have hz : xs.length ≤ sizeLine := by rw [← rel.length]; exact z
  have hl2 : (putN kvs k b v).length ≤ sizeLine := by have := putN_len kvs k b v; omega
  refine wpAny_setItem_heap (hsz := hz) (nk_room hu) ⟨nk_is I.hok k dk rfl, dp⟩ dd fun h' dd' hs => h _ ?_
  have he : ∃ q, h'.get? a = some q := let ⟨q, _, _, hq, _⟩ := dd'; ⟨q, hq⟩
  exact d_write I (by rw [e]; exact True.intro) hs he (dn_ok hl2 hd (rel.put rv) dd')
end
/-- {} -/
def tDNewN (P : Program) (w : World) : TE := fun _ H Q => ∀ p, H p = none → Q (.ref p) (upd H p (dnO p []))
theorem pe_dnewN {X : Cx} {pos : Pos} : PE X (.Dict [] [] pos) (tDNewN X.prog X.w) := ⟨fun pins s σ H Q I h =>
  wpAny_Dict_empty ⟨.ref s.heap.objs.size, _, I.laid (a := s.heap.objs.size) (o := dnO s.heap.objs.size []) (t' := s.toks) (fun _ _ q => Heap.get?_push_of_some _ q) (Nat.le_refl _) (dn_ok (Nat.zero_le _) (beq_eq_false_iff_ne.mpr (Ne.symm (Nat.ne_of_lt I.big))) .nil (Heap.DictOfH.new s.heap)), rfl, h _ (I.hok.fresh (Nat.le_refl _))⟩⟩
end VS
end
section
set_option Elab.async false
set_option linter.all false
set_option maxRecDepth 100000
set_option autoImplicit false
namespace VS
open PySem PySem.Spec PyProof.Rows L2
def tNGet (X : Cx) (td ty : TE) : TE := fun σ H Q => td σ H fun x H1 => ty σ H1 fun y H2 => ∃ a kvs k v, x = .ref a ∧ H2 a = some (dnO a kvs) ∧ KeysIn X.K H2 kvs ∧ KeyV X.K H2 y k ∧ atN kvs k = some v ∧ Q v H2
def tNIn (X : Cx) (ty td : TE) : TE := fun σ H Q => ty σ H fun y H1 => td σ H1 fun x H2 => ∃ a kvs k, x = .ref a ∧ H2 a = some (dnO a kvs) ∧ KeysIn X.K H2 kvs ∧ KeyV X.K H2 y k ∧ Q (.bl (atN kvs k).isSome) H2
def tNNotIn (X : Cx) (ty td : TE) : TE := fun σ H Q => ty σ H fun y H1 => td σ H1 fun x H2 => ∃ a kvs k, x = .ref a ∧ H2 a = some (dnO a kvs) ∧ KeysIn X.K H2 kvs ∧ KeyV X.K H2 y k ∧ Q (.bl (!(atN kvs k).isSome)) H2
def sNPut (X : Cx) (td ty tv : TE) : TS := fun D σ H => tv σ H fun v H1 => td σ H1 fun x H2 => ty σ H2 fun y H3 => ∃ a b kvs k, x = .ref a ∧ y = .ref b ∧ H3 a = some (dnO a kvs) ∧ KeysIn X.K H3 kvs ∧ Dq X.K H3 (.ref b) k.data ∧ k.depth ≤ 8 ∧ kvs.length < sizeLine ∧ D.nx σ (upd H3 a (dnO a (putN kvs k b v)))
section
variable {X : Cx} {o i e value : Expr} {pos pos' tpos : Pos} {td ty tv : TE}
theorem pe_nget (hu : X.A.units + 9 < cLine) (ho : PE X o td) (hi : PE X i ty) (hs : NoSl i) : PE X (.Subscript o i pos) (tNGet X td ty) := by
  refine ⟨fun pins s σ H Q I h => ?_⟩
  refine subD_of PySem.F.slot_dict_getitem.lookup hs (thn (ho.run pins s σ H _ I h) fun u s1 ⟨x, H1, I1, rx, q1⟩ => thn (hi.run pins s1 σ H1 _ I1 q1) fun iv s2 ⟨y, H2, I2, ry, a, kvs, k, v, ex, e, hk, ky, l, q2⟩ => ?_)
  subst ex
  obtain rfl : u = Value.ref a := rx
  obtain ⟨_, _, xs, _, dd⟩ := dn_of I2.hok e hk
  exact ⟨dd.typeIs, dn_getItem hu I2 e hk ky l ry fun w' s3 I3 rw' => ⟨v, H2, I3, rw', q2⟩⟩
theorem pc_nin (hu : X.A.units + 9 < cLine) (hi : PE X i ty) (ho : PE X o td) : PC X .In i o (tNIn X ty td) := by
  refine ⟨fun pins s σ H Q I h => ?_⟩
  refine thn (hi.run pins s σ H _ I h) fun iv s1 ⟨y, H1, I1, ry, q1⟩ => thn (ho.run pins s1 σ H1 _ I1 q1) fun u s2 ⟨x, H2, I2, rx, a, kvs, k, ex, e, hk, ky, q2⟩ => ?_
  subst ex
  obtain rfl : u = Value.ref a := rx
  exact dn_in hu I2 e hk ky ry fun s3 I3 => ⟨.bl (atN kvs k).isSome, H2, I3, rfl, q2⟩
theorem pc_nnotin (hu : X.A.units + 9 < cLine) (hi : PE X i ty) (ho : PE X o td) : PC X .NotIn i o (tNNotIn X ty td) := by
  refine ⟨fun pins s σ H Q I h => ?_⟩
  refine thn (hi.run pins s σ H _ I h) fun iv s1 ⟨y, H1, I1, ry, q1⟩ => thn (ho.run pins s1 σ H1 _ I1 q1) fun u s2 ⟨x, H2, I2, rx, a, kvs, k, ex, e, hk, ky, q2⟩ => ?_
  subst ex
  obtain rfl : u = Value.ref a := rx
  exact dn_notIn hu I2 e hk ky ry fun s3 I3 => ⟨.bl (!(atN kvs k).isSome), H2, I3, rfl, q2⟩
theorem ps_nput (hu : X.A.units + 9 < cLine) (ho : PE X o td) (hi : PE X i ty) (hv : PE X value tv) (hs : swapsWith value (some (.Subscript o i pos')) pos.line X.env = pure false) :
    PS X (.Assign [.Subscript o i pos'] value pos) (sNPut X td ty tv) := by
  refine ⟨fun pins s σ H D I h => ?_⟩
  refine wpAny_Assign_Subscript (thn (hv.run pins s σ H _ I h) fun r s1 ⟨v, H1, I1, rv, q1⟩ => thn (ho.run pins s1 σ H1 _ I1 q1) fun u s2 ⟨x, H2, I2, rx, q2⟩ => thn (hi.run pins s2 σ H2 _ I2 q2) fun iv s3 ⟨y, H3, I3, ry, a, b, kvs, k, ex, ey, e, hk, dk, dp, hl, q3⟩ => ?_) hs
  subst ex ey
  obtain rfl : u = Value.ref a := rx
  exact dn_setItem hu I3 e hk dk dp hl ry rv fun s4 I4 => ⟨σ, _, I4, q3⟩
end
end VS
end
section
set_option Elab.async false
set_option linter.all false
set_option maxRecDepth 100000
set_option autoImplicit false
namespace VS
open PySem PySem.Spec PyProof.Rows L2
/-! ### data as keys -/
mutual
def nkOf : PyData → Option NestedKey
  | .none => some .none
  | .int i => some (.num i)
  | .tuple ds => (nksOf ds).map .tup
  | _ => none
def nksOf : List PyData → Option (List NestedKey)
  | [] => some []
  | d :: ds => (nkOf d).bind fun k => (nksOf ds).map (k :: ·)
end
mutual
theorem nkOf_data : ∀ (d : PyData) (k : NestedKey), nkOf d = some k → k.data = d ∧ pureK k = true
  | .none, k, h => by cases h; exact ⟨rfl, rfl⟩
  | .int i, k, h => by cases h; exact ⟨rfl, rfl⟩
  | .tuple ds, k, h => by
    rw [nkOf] at h
    obtain ⟨ks, h1, rfl⟩ := Option.map_eq_some_iff.mp h
    obtain ⟨e, p⟩ := nksOf_data ds ks h1
    exact ⟨by rw [NestedKey.data, e], by rw [pureK]; exact p⟩
  | .bool _, k, h => by simp [nkOf] at h
  | .str _, k, h => by simp [nkOf] at h
  | .list _, k, h => by simp [nkOf] at h
  | .dict _, k, h => by simp [nkOf] at h
theorem nksOf_data : ∀ (ds : List PyData) (ks : List NestedKey), nksOf ds = some ks → NestedKey.datas ks = ds ∧ pureKs ks = true
  | [], ks, h => by cases h; exact ⟨rfl, rfl⟩
  | d :: ds, ks, h => by
    rw [nksOf] at h
    obtain ⟨k, h1, h2⟩ := Option.bind_eq_some_iff.mp h
    obtain ⟨ks', h3, rfl⟩ := Option.map_eq_some_iff.mp h2
    obtain ⟨e1, p1⟩ := nkOf_data d k h1
    obtain ⟨e2, p2⟩ := nksOf_data ds ks' h3
    exact ⟨by rw [NestedKey.datas, e1, e2], by rw [pureKs, p1, p2]; rfl⟩
end
mutual
theorem nkOf_of : ∀ k : NestedKey, pureK k = true → nkOf k.data = some k
  | .none, _ => rfl
  | .num _, _ => rfl
  | .text _, h => by cases h
  | .tup ks, h => by
    rw [NestedKey.data, nkOf, nksOf_of ks h]; rfl
theorem nksOf_of : ∀ ks : List NestedKey, pureKs ks = true → nksOf (NestedKey.datas ks) = some ks
  | [], _ => rfl
  | k :: ks, h => by
    obtain ⟨h1, h2⟩ := Bool.and_eq_true_iff.mp h
    rw [NestedKey.datas, nksOf, nkOf_of k h1, nksOf_of ks h2]; rfl
end
/-- a tuple that can be a key -/
def kOf : PyData → Option NestedKey
  | .tuple ds => (nkOf (.tuple ds)).bind fun k => if k.depth ≤ 8 then some k else none
  | _ => none
theorem kOf_spec {d : PyData} {k : NestedKey} (h : kOf d = some k) : k.data = d ∧ pureK k = true ∧ k.depth ≤ 8 ∧ nkOf d = some k ∧ ∃ ds, d = .tuple ds := by
  unfold kOf at h
  split at h
  · rename_i ds
    obtain ⟨k', h1, h2⟩ := Option.bind_eq_some_iff.mp h
    split at h2
    · rename_i hd
      cases h2
      obtain ⟨e, p⟩ := nkOf_data _ _ h1
      exact ⟨e, p, hd, h1, ds, rfl⟩
    · cases h2
  · cases h
def lookN (kvs : List (PyData × PyData)) (k : NestedKey) : Option PyData := (kvs.find? fun p => decide (nkOf p.1 = some k)).map (·.2)
def putD (kvs : List (PyData × PyData)) (k : NestedKey) (d v : PyData) : List (PyData × PyData) := if (lookN kvs k).isSome = true then kvs.map fun x => if nkOf x.1 = some k then (x.1, v) else x else kvs ++ [(d, v)]
abbrev NP (K : PySem.W.Frag) (F : Hp) : NKV → List (PyData × PyData) → Prop := Paired (fun (p : NestedKey × Addr × V) (q : PyData × PyData) => p.1.data = q.1 ∧ p.1.depth ≤ 8 ∧ pureK p.1 = true ∧ Dq K F (.ref p.2.1) q.1 ∧ Dq K F p.2.2 q.2)
section
variable {K : PySem.W.Frag} {F H : Hp}
theorem NP.keys : ∀ {nkv : NKV} {kvs : List (PyData × PyData)}, NP K F nkv kvs → KeysIn K F nkv
  | _, _, .nil => fun p hp => by cases hp
  | _, _, .cons (a := x) ⟨h1, h2, h3, h4, _⟩ t => fun p hp => by
    rcases List.mem_cons.mp hp with rfl | hp
    · exact ⟨by rw [h1]; exact h4, h2, h3⟩
    · exact NP.keys t p hp
theorem KeysIn.mono {nkv : NKV} (e : Same F H) (h : KeysIn K F nkv) : KeysIn K H nkv := fun p hp => ⟨dp_mono e (h p hp).1, (h p hp).2⟩
theorem NP.len : ∀ {nkv : NKV} {kvs : List (PyData × PyData)}, NP K F nkv kvs → nkv.length = kvs.length
  | _, _, h => Paired.length h
theorem NP.look {k : NestedKey} : ∀ {nkv : NKV} {kvs : List (PyData × PyData)}, NP K F nkv kvs → (lookN kvs k).isSome = (atN nkv k).isSome ∧ ∀ d, lookN kvs k = some d → ∃ v, atN nkv k = some v ∧ Dq K F v d
  | _, _, .nil => ⟨rfl, fun d h => by cases h⟩
  | _, _, .cons (a := p) (b := q) (l₁ := ps) (l₂ := qs) ⟨h1, h2, h3, h4, h5⟩ t => by
    have e0 : nkOf q.1 = some p.1 := by rw [← h1]; exact nkOf_of p.1 h3
    by_cases h : p.1 = k
    · have e1 : lookN (q :: qs) k = some q.2 := by unfold lookN; rw [List.find?_cons_of_pos (by rw [e0, h]; simp)]; rfl
      have e2 : atN (p :: ps) k = some p.2.2 := by unfold atN; rw [List.find?_cons_of_pos (by simpa using h)]; rfl
      rw [e1, e2]
      exact ⟨rfl, fun d hd => by cases hd; exact ⟨_, rfl, h5⟩⟩
    · have e1 : lookN (q :: qs) k = lookN qs k := by unfold lookN; rw [List.find?_cons_of_neg (by rw [e0]; simpa using h)]
      have e2 : atN (p :: ps) k = atN ps k := by unfold atN; rw [List.find?_cons_of_neg (by simpa using h)]
      rw [e1, e2]
      exact NP.look t
theorem NP.mapP {k : NestedKey} {v : V} {dv : PyData} (hv : Dq K F v dv) : ∀ {nkv : NKV} {kvs : List (PyData × PyData)}, NP K F nkv kvs → NP K F (nkv.map fun x => if x.1 = k then (x.1, x.2.1, v) else x) (kvs.map fun x => if nkOf x.1 = some k then (x.1, dv) else x)
  | _, _, .nil => .nil
  | _, _, .cons (a := p) (b := q) ⟨h1, h2, h3, h4, h5⟩ t => by
    have e0 : nkOf q.1 = some p.1 := by rw [← h1]; exact nkOf_of p.1 h3
    refine .cons ?_ (NP.mapP hv t)
    dsimp only
    rw [e0]
    by_cases h : p.1 = k
    · rw [if_pos h, if_pos (by rw [h])]; exact ⟨h1, h2, h3, h4, hv⟩
    · rw [if_neg h, if_neg (fun z => h (Option.some.inj z))]; exact ⟨h1, h2, h3, h4, h5⟩
theorem NP.put {k : NestedKey} {b : Addr} {v : V} {d dv : PyData} {nkv : NKV} {kvs : List (PyData × PyData)} (h : NP K F nkv kvs) (hk : k.data = d) (hd : k.depth ≤ 8) (hp : pureK k = true) (db : Dq K F (.ref b) d) (hv : Dq K F v dv) : NP K F (putN nkv k b v) (putD kvs k d dv) := by
  unfold putN putD
  rw [(h.look (k := k)).1]
  split
  · exact NP.mapP hv h
  · exact Paired.snoc h ⟨hk, hd, hp, db, hv⟩
end
theorem putD_len (kvs : List (PyData × PyData)) (k : NestedKey) (d v : PyData) : (putD kvs k d v).length ≤ kvs.length + 1 := by
  unfold putD
  split
  · rw [List.length_map]; omega
  · rw [List.length_append]; simp
/-! ### {k: v} -/
def tNDisp (K : PySem.W.Frag) (tk tv : TE) : TE := fun σ H Q => ∀ p, H p = none → tk σ (upd H p (dnO p [])) fun y H1 => tv σ H1 fun v H2 => ∃ b k, y = .ref b ∧ H2 p = some (dnO p []) ∧ Dq K H2 (.ref b) k.data ∧ k.depth ≤ 8 ∧ Q (.ref p) (upd H2 p (dnO p [(k, b, v)]))
theorem pe_ndisp {X : Cx} {pos : Pos} {ke ve : Expr} {tk tv : TE} (hu : X.A.units + 9 < cLine) (hk : PE X ke tk) (hv : PE X ve tv) : PE X (.Dict [some ke] [ve] pos) (tNDisp X.K tk tv) := by
  refine ⟨fun pins s σ H Q I q => ?_⟩
  have hn := I.hok.fresh (Nat.le_refl s.heap.objs.size)
  have I1 : Inv X pins σ (upd H s.heap.objs.size (dnO s.heap.objs.size [])) { s with heap := s.heap.push { cls := .type "dict", data := .dict #[] } } :=
    I.laid (a := s.heap.objs.size) (o := dnO s.heap.objs.size []) (t' := s.toks) (fun _ _ q => Heap.get?_push_of_some _ q) (Nat.le_refl _) (dn_ok (Nat.zero_le _) (beq_eq_false_iff_ne.mpr (Ne.symm (Nat.ne_of_lt I.big))) .nil (Heap.DictOfH.new s.heap))
  rw [arm_eval_Dict]
  have sh : (evalEachOpt [some ke] X.env).zip ((evalEach [ve] X.env).map fun v => (do let x ← v; standAt pos; pure x : Sem Value)) = [((eval ke X.env : Sem Value), (do let x ← eval ve X.env; standAt pos; pure x : Sem Value))].map fun p => (some p.1, p.2) := rfl
  rw [sh, dictDisplay_pairs _ (by simp) (by simp)]
  refine wpAny_bind (wpAny_standAt (wpAny_bind (wpAny_subDictH (knd := nestedKind X.prog X.w) (show X.A.units + 8 < cLine by omega) (by simp) ?_)))
  refine evalPairs_cons (thn (hk.run pins _ σ _ _ I1 (q _ hn)) fun u s1 ⟨y, H1, I2, ry, q1⟩ => ?_)
  refine wpAny_bind (thn (hv.run pins s1 σ H1 _ I2 q1) fun r s2 ⟨v, H2, I3, rv, q2⟩ => ?_)
  refine wpAny_bind (wpAny_standAt (wpAny_pure (evalPairs_nil ?_)))
  obtain ⟨b, k, rfl, e, dk, dp, q3⟩ := q2
  obtain rfl : u = Value.ref b := ry
  obtain ⟨_, hd, xs, rel, dd⟩ := dn_of (K := X.K) I3.hok e (fun p hp => by cases hp)
  cases rel
  refine ⟨[(k, b, r)], ⟨rfl, rfl, ⟨nk_is I3.hok k dk rfl, dp⟩, trivial⟩, dd, fun h' tk dd' hs => wpAny_pure ⟨.ref s.heap.objs.size, _, ?_, rfl, q3⟩⟩
  have he : ∃ q, h'.get? s.heap.objs.size = some q := let ⟨q, _, _, hq, _⟩ := dd'; ⟨q, hq⟩
  exact d_write I3 (by rw [e]; exact True.intro) hs he (dn_ok (by show 1 ≤ sizeLine; decide) hd (.cons ⟨rfl, rfl, rv⟩ .nil) dd')
/-! ### sorted, whatever it is of -/
section
open PySem.W PySem.SeqAt
variable {prog : Program} {w : World} {A : Around} {s : Shared} {E : Value → Shared → Prop}
theorem sorted_from {R : Value → PyData → Prop} {it : Addr} {Pd : List PyData → Prop} {Q : Value → Shared → Prop}
    (hcol : ∀ (E' : Value → Shared → Prop) (R' : List Value → Shared → Prop), (∀ s1 vs ds, (∀ b u, s.heap.get? b = some u → s1.heap.get? b = some u) → s1.gens = s.gens → s1.os = s.os → Pd ds → EachIs R vs ds → EachIs (fun v d => ∃ as, Reads s.heap v d as) vs ds → R' vs s1) → wpAny (model prog w) A.in1 (collect (.ref it)) R' E' s)
    (hb : ∀ ds, Pd ds → sortB ds = true) (hu : A.units + 10 < cLine)
    (h : ∀ (s1 : Shared) (h' : Heap) (out : List Value) (m : Nat) (ds : List PyData), (∀ b u, s.heap.get? b = some u → s1.heap.get? b = some u) → (∀ b u, s1.heap.get? b = some u → h'.get? b = some u) → s1.gens = s.gens → s1.os = s.os → Pd ds → h'.get? s1.heap.objs.size = some (seqObj "list" out.toArray m) → EachIs R out (ds.mergeSort (dataLe false id)) → Q (.ref s1.heap.objs.size) { s1 with heap := h' }) :
    wpAny (model prog w) A (call (.builtin "sorted") [.ref it]) Q E s := by
  refine Calls.call_function_entry kind_sorted plain_sorted entry_sorted (args_sorted1 _) ?_
  unfold Builtin.«sorted»
  refine wpAny_bind (m := checkCount "sorted" 1 1 _) (wpAny_pure ?_)
  refine wpAny_bind (hcol _ _ fun s1 us ds k1 g1 o1 pd e er => ?_)
  have hlen : us.length = ds.length := e.length
  have hsz : us.length ≤ sizeLine := by
    have := sortB_len (hb ds pd)
    rw [hlen]
    exact le_lim this
  refine wpAny_bind (wpAny_newList ?_ hsz)
  have a1 : (s1.heap.push (seqObj "list" us.toArray 0)).get? s1.heap.objs.size = some (seqObj "list" us.toArray 0) := Heap.get?_push_size _ rfl
  refine wpAny_bind (wpAny_holding (wpAny_call_entry_kw slot_list_sort ⟨_, a1, rfl⟩ entry_list_sort ?body (args_list_sort _)))
  case body =>
    have k2 : ∀ b u, s1.heap.get? b = some u → (sortingHeap (s1.heap.push (seqObj "list" us.toArray 0)) s1.heap.objs.size us).get? b = some u := fun b u q =>
      sortingHeap_old (Nat.ne_of_lt (Heap.lt_size q)) (Heap.get?_push_of_some _ q)
    have er' : EachIs (fun v d => ∃ as, Reads (sortingHeap (s1.heap.push (seqObj "list" us.toArray 0)) s1.heap.objs.size us) v d as) us ds :=
      er.mono fun _ _ ⟨as, r⟩ => ⟨as, PyProof.Rows.Reads.keeps (fun b u q => k2 b u (k1 b u q)) r⟩
    have S : SortsAt prog w A.in1.in1 { s1 with heap := sortingHeap (s1.heap.push (seqObj "list" us.toArray 0)) s1.heap.objs.size us } (dataKind (sortingHeap (s1.heap.push (seqObj "list" us.toArray 0)) s1.heap.objs.size us) ds) us :=
      sortsAt_any er' (hb ds pd) fun d hd => by
        have := sortB_depth (hb ds pd) d hd
        have hin : A.in1.in1.units = A.units + 2 := rfl
        rw [hin]
        omega
    refine list_sort_vals (s := { s1 with heap := s1.heap.push (seqObj "list" us.toArray 0) }) a1 S hsz ?_
    refine ⟨_, rfl, wpAny_pure ⟨_, rfl, ?_⟩⟩
    obtain ⟨m, hm⟩ := sortedHeap_at (out := (sortVals (dataKind (sortingHeap (s1.heap.push (seqObj "list" us.toArray 0)) s1.heap.objs.size us) ds) false us us).toArray) a1
    refine h s1 _ _ m ds k1 (fun b u q => ?_) g1 o1 pd hm ?_
    · rw [sortedHeap_old (Nat.ne_of_lt (Heap.lt_size q)) (Heap.lt_size (Heap.get?_push_of_some _ q))]
      exact Heap.get?_push_of_some _ q
    · have := sortVals_data (enc := id) false e er' (by rw [List.map_id]; exact sortB_alike (hb ds pd))
      rw [List.map_id] at this
      exact this
end
end VS
end
section
set_option Elab.async false
set_option linter.all false
set_option maxRecDepth 100000
set_option autoImplicit false
namespace VS
open PySem PySem.Spec PyProof.Rows L2 PySem.W PySem.SeqAt
/-! ### sorted(d) -/
def rSortDn (K : PySem.W.Frag) : List V → Hp → VK → Prop := fun vs H Q => ∃ a nkv, vs = [.ref a] ∧ H a = some (dnO a nkv) ∧ KeysIn K H nkv ∧ sortB (nkv.map (·.1.data)) = true ∧
  ∀ ys p, H p = none → EachIs (fun y d => (y, d) ∈ (nkv.map fun p => V.ref p.2.1).zip (nkv.map (·.1.data))) ys (sortedL (nkv.map (·.1.data))) → Q (.ref p) (upd H p (.lst ys))
theorem keys_dpa {K : PySem.W.Frag} {H : Hp} : ∀ {nkv : NKV}, KeysIn K H nkv → DqAll K H (nkv.map fun p => V.ref p.2.1) (nkv.map (·.1.data))
  | [], _ => .nil
  | p :: nkv, h => .cons (h p (by simp)).1 (keys_dpa fun q hq => h q (List.mem_cons_of_mem _ hq))
theorem keys_vals : ∀ {nkv : NKV} {xs : List (NestedKey × Addr × Value)}, KN nkv xs → Vals (nkv.map fun p => V.ref p.2.1) (xs.map fun x => Value.ref x.2.1)
  | _, _, .nil => .nil
  | _, _, .cons hq t => .cons (show RelV (V.ref _) (Value.ref _) by rw [hq.2.1]; rfl) (keys_vals t)
section
variable {X : Cx} {xc : Nat → Addr} {W : WX} {e ke ve o : Expr} {g gk gv : Rho → RE PyData} {pos p : Pos} {i : Nat} {st : Stmt}
theorem cr_sortDn (hc : X.calm = true) (hu : X.A.units + 65 < cLine) : CallR X (.builtin "sorted") (rSortDn X.K) := by
  intro pins s σ H vs us Q I r h
  obtain ⟨a, nkv, rfl, ha, hk, hb, q⟩ := h
  rw [Vals.ref1 r]
  obtain ⟨hz, hd, xs, rel, dd⟩ := dn_of I.hok ha hk
  obtain ⟨es, ep, raw, hes⟩ : ∃ es ep, s.heap.DictRaw a es ep ∧ es.toList.map (·.key) = xs.map fun x => Value.ref x.2.1 := by
    obtain ⟨o, es, ep, h1, h2, h3, h4, _⟩ := dd
    refine ⟨es, ep, ⟨o, h1, h2, h3⟩, ?_⟩
    rw [h4, List.map_map]; rfl
  have hlen : es.size = nkv.length := by
    have := congrArg List.length hes
    rw [List.length_map, List.length_map, Array.length_toList, ← rel.length] at this
    exact this
  refine sorted_from (R := fun u d => ∃ x, (x, d) ∈ (nkv.map fun p => V.ref p.2.1).zip (nkv.map (·.1.data)) ∧ RelV x u) (Pd := fun ds => ds = nkv.map (·.1.data)) (fun E' R' hR => ?_) (fun ds e => by rw [e]; exact hb) (by omega) ?_
  · refine PySem.W.kdu_collect (PySem.KdlSrc.rawDict (ep := ep) hd) (I.ok.hd hc) raw (by rw [hlen]; exact hz) fun h' tk acc k2 it => ?_
    have eacc : acc.toList = xs.map fun x => Value.ref x.2.1 := by
      rw [← hes]
      refine List.ext_getElem? fun j => ?_
      rw [List.getElem?_map, Array.getElem?_toList, Array.getElem?_toList]
      by_cases hj : j < es.size
      · have h1 : j < acc.size := by rw [it.1]; exact hj
        obtain ⟨hi, ev⟩ := it.2 j acc[j] (Array.getElem?_eq_getElem h1)
        rw [Array.getElem?_eq_getElem h1, Array.getElem?_eq_getElem hi, ev]; rfl
      · rw [Array.getElem?_eq_none (by rw [it.1]; omega), Array.getElem?_eq_none (by omega)]; rfl
    have rv := keys_vals rel
    rw [← eacc] at rv
    exact hR { s with heap := h', toks := tk } acc.toList _ k2 rfl rfl rfl (each_zip rv (by simp)) (each_of (K := X.K) I rv (keys_dpa hk).dp)
  · intro s1 h' out m ds k k2 g1 o1 eds hat hout
    subst eds
    obtain ⟨ys, rys, he⟩ := each_back hout
    have hl : ys.length ≤ sizeLine := by
      have e1 : ys.length = (sortedL (nkv.map (·.1.data))).length := he.length
      have e2 : (sortedL (nkv.map (·.1.data))).length = (nkv.map (·.1.data)).length := (List.mergeSort_perm _ _).length_eq
      rw [e1, e2]
      exact le_lim (sortB_len hb)
    have I1 : Inv X pins σ H s1 := I.call' (ch := []) o1 (Un.kept k) (I.hok.kept k) (by rw [g1]; exact I.bare) (fun _ z => nomatch z)
    exact ⟨.ref s1.heap.objs.size, upd H s1.heap.objs.size (.lst ys), I1.laid (t' := s1.toks) k2 (Nat.le_refl _) ⟨hl, out, m, rys, hat⟩, rfl, q ys _ (I1.hok.fresh (Nat.le_refl _)) he⟩
end
end VS
end
section
set_option Elab.async false
set_option linter.all false
set_option maxRecDepth 100000
set_option autoImplicit false
namespace VS
open PySem PySem.Spec PyProof.Rows L2
/-! ### a dict with nested keys in a slot -/
def dNewDn (i : Nat) : Rho → RS := fun ρ => .ok (.nx (ρ.set i (some (.cp (.dn [])))))
def dNewDn1 (i : Nat) (gk gv : Rho → RE PyData) : Rho → RS := stE gk fun d => stE gv fun v ρ => match kOf d with
  | some _ => .ok (.nx (ρ.set i (some (.cp (.dn [(d, v)])))))
  | none => .bad
def dnOf : Option (Option SV) → Option (List (PyData × PyData))
  | some (some (.cp (.dn kvs))) => some kvs
  | _ => none
theorem dnOf_eq {o : Option (Option SV)} {kvs : List (PyData × PyData)} (h : dnOf o = some kvs) : o = some (some (.cp (.dn kvs))) := by
  unfold dnOf at h
  split at h
  · cases h; rfl
  · cases h
def dDnPut (i : Nat) (gk gv : Rho → RE PyData) : Rho → RS := stE gv fun v ρ => match dnOf ρ[i]? with
  | some kvs => stE gk (fun d ρ => match kOf d with
    | some k => if kvs.length < lim then .ok (.nx (ρ.set i (some (.cp (.dn (putD kvs k d v)))))) else .bad
    | none => .bad) ρ
  | none => .bad
def dDnGet (i : Nat) (g : Rho → RE PyData) : Rho → RE PyData := fun ρ => match dnOf ρ[i]? with
  | some kvs => (g ρ).bind fun d => R.of ((kOf d).bind fun k => lookN kvs k)
  | none => .bad
def dDnIn (i : Nat) (ng : Bool) (g : Rho → RE PyData) : Rho → RE PyData := fun ρ => match dnOf ρ[i]? with
  | some kvs => (g ρ).bind fun d => R.of ((kOf d).map fun k => .bool (bne ng (lookN kvs k).isSome))
  | none => .bad
def dSortDn (i : Nat) : Rho → RE PyData := fun ρ => match dnOf ρ[i]? with
  | some kvs => if sortB (kvs.map (·.1)) = true then .ok (.list (sortedL (kvs.map (·.1)))) else .bad
  | none => .bad
theorem dnO_ni {H : Hp} {a : Addr} {nkv : NKV} (h : H a = some (dnO a nkv)) : ∀ C dx fs, H a ≠ some (.ins C dx fs) := fun C dx fs z => by
  rw [h] at z; exact absurd (Option.some.inj z) dnO_ins
theorem key_of {K : PySem.W.Frag} {F H : Hp} {v : V} {d : PyData} {k : NestedKey} (hk : kOf d = some k) (h : DpS K F H v d) : ∃ b, v = .ref b ∧ Dq K F (.ref b) d := by
  obtain ⟨_, _, _, _, ds, rfl⟩ := kOf_spec hk
  rcases h with h | ⟨a, vs, ds', rfl, q, _⟩
  · cases h with
    | tup h1 h2 => exact ⟨_, rfl, .tup h1 h2⟩
  · cases q
theorem NP.datas {K : PySem.W.Frag} {F : Hp} : ∀ {nkv : NKV} {kvs : List (PyData × PyData)}, NP K F nkv kvs → nkv.map (·.1.data) = kvs.map (·.1)
  | _, _, .nil => rfl
  | _, _, .cons h t => by rw [List.map_cons, List.map_cons, NP.datas t, h.1]
section
variable {X : Cx} {xc : Nat → Addr} {W : WX} {e ke ve o : Expr} {g gk gv : Rho → RE PyData} {pos p : Pos} {i : Nat} {st : Stmt}
theorem dn_slot {K : PySem.W.Frag} {F0 H0 F H : Hp} {ρ : Rho} {σ : L2.St} {kvs : List (PyData × PyData)} (r : SRel K F0 H0 ρ σ F H) (q : ρ[i]? = some (some (.cp (.dn kvs)))) :
    ∃ a nkv, σ[i]? = some (some (.ref a)) ∧ H a = some (dnO a nkv) ∧ NP K F nkv kvs ∧ H0 a = none ∧ F a = none := by
  obtain ⟨a, cs, e, hn, ⟨nkv, rfl, h1, h2⟩, _⟩ := r.sl i _ q
  exact ⟨a, nkv, e, h1, h2, hn a (by simp)⟩
theorem ds_newDn (h : PS X st (tAsg (tDNewN X.prog X.w) (gName i))) : DS1 X xc W st (dNewDn i) := PS.imp h fun D σ H ⟨F0, H0, ρ, F, r, hg⟩ => fun a ha =>
  hg.nx _ rfl _ F _ (.refl _) (r.setC (cs := [a]) (.own r.same ha) (fun y hy => by rw [List.mem_singleton.mp hy]; exact ⟨ha, r.same.free ha⟩) ⟨[], rfl, upd_same, .nil⟩ trivial)
theorem ds_newDn1 (h : PS X st (tAsg (tNDisp X.K (eC X.K xc W kE gk) (eC X.K xc W kF gv)) (gName i))) : DS1 X xc W st (dNewDn1 i gk gv) := PS.imp h fun D σ H ⟨F0, H0, ρ, F, r, hg⟩ => fun a ha => by
  have x1 : Fz F H F (upd H a (dnO a [])) := .own r.same ha
  refine eC.st (r.step x1) hg fun d y F2 H2 x2 r2 k2 g2 => eC.st r2 g2 fun dv v F3 H3 x3 r3 k3 g3 => ?_
  have g3 : Good X.K xc W D F0 H0 F3 (match kOf d with | some _ => .ok (.nx (ρ.set i (some (.cp (.dn [(d, dv)]))))) | none => .bad) := g3
  cases hk : kOf d with
  | none => rw [hk] at g3; exact absurd rfl g3.nb
  | some k =>
    rw [hk] at g3
    obtain ⟨e1, hp, hd, _, _⟩ := kOf_spec hk
    obtain ⟨b, rfl, db⟩ := key_of hk k2
    have h3 : H3 a = some (dnO a []) := x3.hh _ _ (x2.hh _ _ upd_same)
    have hf2 : F2 a = none := by
      cases q : F2 a with
      | none => rfl
      | some o =>
        rcases x2.nw a o q with z | z
        · rw [r.same.free ha] at z; cases z
        · rw [upd_same] at z; cases z
    have hf3 : F3 a = none := by
      cases q : F3 a with
      | none => rfl
      | some o =>
        rcases x3.nw a o q with z | z
        · rw [hf2] at z; cases z
        · rw [x2.hh _ _ upd_same] at z; cases z
    have db3 : Dq X.K F3 (.ref b) d := dp_mono x3.ff db
    refine ⟨b, k, rfl, h3, by rw [e1]; exact dp_mono r3.same db3, hd, g3.nx _ rfl _ F3 _ (.refl _) ?_⟩
    have x13 := (x1.trans x2).trans x3
    have sm : Same H (upd H3 a (dnO a [(k, b, v)])) := same_upd_mut x13.hh ha
    refine r.setC (cs := [a]) ⟨x13.ff, sm, same_upd_mut r3.same hf3, x13.nw⟩ (fun y hy => by rw [List.mem_singleton.mp hy]; exact ⟨ha, hf3⟩) ⟨[(k, b, v)], rfl, upd_same, .cons ⟨e1, hd, hp, db3, k3⟩ .nil⟩ trivial
theorem ds_nput (h : PS X st (sNPut X (tVar i) (eC X.K xc W kE gk) (eC X.K xc W kF gv))) : DS1 X xc W st (dDnPut i gk gv) := PS.imp h fun D σ H ⟨F0, H0, ρ, F, r, hg⟩ => by
  refine eC.st r hg fun dv v F2 H2 x r2 kk g2 => ?_
  have g2 : Good X.K xc W D F0 H0 F2 (match dnOf ρ[i]? with
    | some kvs => stE gk (fun d ρ => match kOf d with
      | some k => if kvs.length < lim then .ok (.nx (ρ.set i (some (.cp (.dn (putD kvs k d dv)))))) else .bad
      | none => .bad) ρ
    | none => .bad) := g2
  cases hq : dnOf ρ[i]? with
  | none => rw [hq] at g2; exact absurd rfl g2.nb
  | some kvs =>
    rw [hq] at g2
    have q := dnOf_eq hq
    obtain ⟨a0, _, e0, _⟩ := dn_slot r2 q
    refine ⟨.ref a0, e0, eC.st r2 g2 fun d y F3 H3 x3 r3 k3 g3 => ?_⟩
    obtain ⟨a, nkv, ea, ha, np, h0, hf⟩ := dn_slot r3 q
    rw [e0] at ea; cases ea
    cases hk : kOf d with
    | none => rw [hk] at g3; exact absurd rfl g3.nb
    | some k =>
      rw [hk] at g3
      have g3 : Good X.K xc W D F0 H0 F3 (if kvs.length < lim then .ok (.nx (ρ.set i (some (.cp (.dn (putD kvs k d dv)))))) else .bad) := g3
      split at g3
      · rename_i hl
        obtain ⟨e1, hp, hd, _, _⟩ := kOf_spec hk
        obtain ⟨b, rfl, db⟩ := key_of hk k3
        refine ⟨a0, b, nkv, k, rfl, rfl, ha, np.keys.mono r3.same, by rw [e1]; exact dp_mono r3.same db, hd, by rw [np.len]; exact Nat.lt_of_lt_of_le hl lim_le, g3.nx _ rfl _ F3 _ (.refl _) ?_⟩
        exact r3.putC (cs := [a0]) q e0 ⟨nkv, rfl, ha, np⟩ ⟨putN nkv k b v, rfl, upd_same, np.put e1 hd hp db (dp_mono x3.ff kk)⟩ (fun _ => trivial) (fun y hy => upd_ne fun z => hy (by rw [z]; simp))
      · exact absurd rfl g3.nb
theorem de_nget (hu : X.A.units + 65 < cLine) (ho : PE X o (tVar i)) (h : DE X xc W kE e g) (hs : NoSl e) : DE X xc W kF (.Subscript o e pos) (dDnGet i g) := PE.imp (pe_nget (by omega) ho h hs) fun σ H Q ⟨F0, H0, ρ, F, r, hb, hq, hx⟩ => by
  cases hd : dnOf ρ[i]? with
  | none => exact absurd (show dDnGet i g ρ = .bad by unfold dDnGet; rw [hd]) hb
  | some kvs =>
    have q := dnOf_eq hd
    have eqg : dDnGet i g ρ = (g ρ).bind fun d => R.of ((kOf d).bind fun k => lookN kvs k) := by unfold dDnGet; rw [hd]
    rw [eqg] at hb hq hx
    obtain ⟨a0, _, e0, _⟩ := dn_slot r q
    refine ⟨.ref a0, e0, eC.go r hb hx fun d ed v F1 H1 x1 r1 k1 hb1 hx1 => ?_⟩
    obtain ⟨z, ez⟩ := R.of_ne_bad hb1
    obtain ⟨k, hk, hl⟩ := Option.bind_eq_some_iff.mp ez
    obtain ⟨a, nkv, ea, ha, np, _⟩ := dn_slot r1 q
    rw [e0] at ea; cases ea
    obtain ⟨e1, hp, hd8, _, _⟩ := kOf_spec hk
    obtain ⟨b, rfl, db⟩ := key_of hk k1
    obtain ⟨v, hv, dv⟩ := np.look.2 z hl
    refine ⟨a0, nkv, k, v, rfl, ha, np.keys.mono r1.same, ⟨by rw [e1]; exact dp_mono r1.same db, hd8, b, rfl⟩, hv, hq z ?_ _ F1 H1 x1 dv⟩
    rw [ed, R.bind_ok, ez]; rfl
theorem nin_imp {σ : L2.St} {H : Hp} {Q : VK} {ng : Bool} (h : eC X.K xc W kF (dDnIn i ng g) σ H Q) : (ng = false → tNIn X (eC X.K xc W kE g) (tVar i) σ H Q) ∧ (ng = true → tNNotIn X (eC X.K xc W kE g) (tVar i) σ H Q) := by
  obtain ⟨F0, H0, ρ, F, r, hb, hq, hx⟩ := h
  cases hd : dnOf ρ[i]? with
  | none => exact absurd (show dDnIn i ng g ρ = .bad by unfold dDnIn; rw [hd]) hb
  | some kvs =>
    have q := dnOf_eq hd
    have eqg : dDnIn i ng g ρ = (g ρ).bind fun d => R.of ((kOf d).map fun k => .bool (bne ng (lookN kvs k).isSome)) := by unfold dDnIn; rw [hd]
    rw [eqg] at hb hq hx
    have main : ∀ d, g ρ = .ok d → ∀ v F1 H1, Fz F H F1 H1 → SRel X.K F0 H0 ρ σ F1 H1 → kE X.K F H F1 H1 v d → (R.of ((kOf d).map fun k => PyData.bool (bne ng (lookN kvs k).isSome)) : RE PyData) ≠ .bad →
        ∃ x, σ[i]? = some (some x) ∧ ∃ a nkv k, x = .ref a ∧ H1 a = some (dnO a nkv) ∧ KeysIn X.K H1 nkv ∧ KeyV X.K H1 v k ∧ Q (.bl (bne ng (atN nkv k).isSome)) H1 := fun d ed v F1 H1 x1 r1 k1 hb1 => by
      obtain ⟨z, ez⟩ := R.of_ne_bad hb1
      obtain ⟨k, hk, rfl⟩ := Option.map_eq_some_iff.mp ez
      obtain ⟨a, nkv, ea, ha, np, _⟩ := dn_slot r1 q
      obtain ⟨e1, hp, hd8, _, _⟩ := kOf_spec hk
      obtain ⟨b, rfl, db⟩ := key_of hk k1
      refine ⟨.ref a, ea, a, nkv, k, rfl, ha, np.keys.mono r1.same, ⟨by rw [e1]; exact dp_mono r1.same db, hd8, b, rfl⟩, ?_⟩
      rw [← np.look.1]
      refine hq (.bool (bne ng (lookN kvs k).isSome)) ?_ _ F1 H1 x1 (.bl _)
      rw [ed, R.bind_ok, hk]; rfl
    constructor
    · intro e
      subst e
      refine eC.go r hb hx fun d ed v F1 H1 x1 r1 k1 hb1 hx1 => ?_
      obtain ⟨x, e1, a, nkv, k, e2, h1, h2, h3, h4⟩ := main d ed v F1 H1 x1 r1 k1 hb1
      refine ⟨x, e1, a, nkv, k, e2, h1, h2, h3, ?_⟩
      cases hs : (atN nkv k).isSome <;> rw [hs] at h4 <;> exact h4
    · intro e
      subst e
      refine eC.go r hb hx fun d ed v F1 H1 x1 r1 k1 hb1 hx1 => ?_
      obtain ⟨x, e1, a, nkv, k, e2, h1, h2, h3, h4⟩ := main d ed v F1 H1 x1 r1 k1 hb1
      refine ⟨x, e1, a, nkv, k, e2, h1, h2, h3, ?_⟩
      cases hs : (atN nkv k).isSome <;> rw [hs] at h4 <;> exact h4
theorem de_nin (hu : X.A.units + 65 < cLine) (h : DE X xc W kE e g) (ho : PE X o (tVar i)) (hm : behindInMarks .In o = false := by rfl) : DE X xc W kF (.Compare e [.In] [o] pos) (dDnIn i false g) := PE.imp (pe_cmp (pc_nin (by omega) h ho) hm) fun σ H Q q => (nin_imp q).1 rfl
theorem de_nnotin (hu : X.A.units + 65 < cLine) (h : DE X xc W kE e g) (ho : PE X o (tVar i)) (hm : behindInMarks .NotIn o = false := by rfl) : DE X xc W kF (.Compare e [.NotIn] [o] pos) (dDnIn i true g) := PE.imp (pe_cmp (pc_nnotin (by omega) h ho) hm) fun σ H Q q => (nin_imp q).2 rfl
theorem dt_nin (hu : X.A.units + 65 < cLine) (h : DE X xc W kE e g) (ho : PE X o (tVar i)) (hm : behindInMarks .In o = false := by rfl) : DT X xc W (.Compare e [.In] [o] pos) (dTest (dDnIn i false g)) := PT.imp (pt_cmp (pc_nin (by omega) h ho) hm) fun σ H Q q => (nin_imp (test_imp q)).1 rfl
theorem dt_nnotin (hu : X.A.units + 65 < cLine) (h : DE X xc W kE e g) (ho : PE X o (tVar i)) (hm : behindInMarks .NotIn o = false := by rfl) : DT X xc W (.Compare e [.NotIn] [o] pos) (dTest (dDnIn i true g)) := PT.imp (pt_cmp (pc_nnotin (by omega) h ho) hm) fun σ H Q q => (nin_imp (test_imp q)).2 rfl
theorem de_sortDn (hc : X.calm = true) (hu : X.A.units + 65 < cLine) (hg : Gl X "sorted") (hm : X.mg "sorted" = none) (ho : PE X o (tVar i)) (hst : starEach [o] X.env = (false, eval o X.env) :: starEach [] X.env := by rfl) : DE X xc W kN (.Call (.Name "sorted" p) [o] [] pos) (dSortDn i) :=
  PE.imp (pe_callB (cr_sortDn hc hu) hg hm boot_sorted (pa_cons ho pa_nil hst) (by decide) (by decide) hst) fun σ H Q ⟨F0, H0, ρ, F, r, hb, hq, hx⟩ => by
  cases hd : dnOf ρ[i]? with
  | none => exact absurd (show dSortDn i ρ = .bad by unfold dSortDn; rw [hd]) hb
  | some kvs =>
    have q := dnOf_eq hd
    have eqg : dSortDn i ρ = if sortB (kvs.map (·.1)) = true then .ok (.list (sortedL (kvs.map (·.1)))) else .bad := by unfold dSortDn; rw [hd]
    rw [eqg] at hb hq hx
    by_cases hs : sortB (kvs.map (·.1)) = true
    · rw [if_pos hs] at hq
      obtain ⟨a, nkv, ea, ha, np, _⟩ := dn_slot r q
      have em := np.datas
      refine ⟨.ref a, ea, a, nkv, rfl, ha, np.keys.mono r.same, by rw [em]; exact hs, fun ys p hp he => hq _ rfl _ F _ (.own r.same hp) ⟨p, ys, _, rfl, rfl, hp, r.same.free hp, upd_same, ?_⟩⟩
      rw [em] at he
      refine dqa_each ?_ he
      rw [← em]
      exact keys_dpa np.keys
    · rw [if_neg hs] at hb; exact absurd rfl hb
/-- == of ints: no room is asked -/
def eqI := intOp0 fun i j => .bool (decide (i = j))
theorem eqI_ok {K : PySem.W.Frag} : OpOk K rEq kF eqI := by
  intro F H x y d e z Q sm hx hy ho hq
  unfold eqI intOp0 at ho
  split at ho
  · rename_i i j
    cases ho
    rw [hx.int, hy.int]
    refine ⟨rfl, hq _ F H (.refl sm) ?_⟩
    have : decide (V.int i = V.int j) = decide (i = j) := by rw [Bool.eq_iff_iff]; simp
    rw [this]
    exact .bl _
  · cases ho
theorem dt_eqI {a b : Expr} {ga gb : Rho → RE PyData} (ha : DE X xc W kE a ga) (hb : DE X xc W kE b gb) : DT X xc W (.Compare a [.Eq] [b] pos) (dTest (dBin eqI ga gb)) := dt_bin (pt_cmpR op_eq ha hb (nomark _)) eqI_ok
end
end VS
end
section
set_option Elab.async false
set_option linter.all false
set_option maxRecDepth 100000
set_option autoImplicit false
namespace VS
open PySem PySem.Spec PyProof.Rows L2
/-! ### what a set asks of its keys -/
section
variable {P : Program} {w : World} {A : Around} {E : Value → Shared → Prop} {s : Shared}
theorem nested_no : ∀ (n : Nat) (k : NestedKey) (v : Value), NestedIs s.heap k v → k.depth ≤ n → ∀ Q : Bool → Shared → Prop, Q false s → wpAny (model P w) A (ofAClassStatement n v) Q E s := by
  intro n
  induction n with
  | zero =>
    intro k v hk hd Q h
    cases hk with
    | none => exact wpAny_pure h
    | bool _ => exact wpAny_pure h
    | int _ _ => exact wpAny_pure h
    | text _ _ => exact wpAny_pure h
    | tup _ _ _ _ => rw [NestedKey.depth] at hd; omega
  | succ n ih =>
    intro k v hk hd Q h
    cases hk with
    | none => exact wpAny_pure h
    | bool _ => exact wpAny_pure h
    | int _ _ => exact wpAny_pure h
    | text _ _ => exact wpAny_pure h
    | @tup a o vs m ks h1 h2 h3 h4 =>
      have hks : NestedKey.depthAll ks ≤ n := by rw [NestedKey.depth] at hd; omega
      unfold ofAClassStatement
      refine wpAny_bind (wpAny_typeOf (T := "tuple") ⟨o, h1, h2⟩ ?_)
      simp only [show (("tuple" : String) == "tuple") = true by decide, if_true]
      refine wpAny_bind (wpAny_pure ?_)
      simp only [Bool.not_true, Bool.false_eq_true, if_false]
      refine wpAny_bind (wpAny_seqItems h1 h3 ?_)
      refine wpAny_bind ?_
      show wpAny _ _ (forIn vs _ _) _ _ s
      rw [← Array.forIn_toList]
      refine wpAny_forIn_list _ (fun us r z => z = s ∧ r.1 = none ∧ ∃ js, NestedAll s.heap js us ∧ NestedKey.depthAll js ≤ n) _ ?_ ?_ _ _ ⟨rfl, rfl, ks, h4, hks⟩
      · rintro u us r z ⟨rfl, hr, js, hj, hn⟩
        cases hj with
        | @cons j _ js _ j1 j2 =>
          rw [NestedKey.depthAll] at hn
          refine wpAny_bind (ih j u j1 (by omega) _ ?_)
          simp only [Bool.false_eq_true, if_false]
          exact wpAny_pure ⟨rfl, rfl, js, j2, by omega⟩
      · rintro ⟨r1, r2⟩ z ⟨rfl, hr, _⟩
        cases (show r1 = none from hr)
        exact wpAny_pure h
theorem nested_plain : ∀ (n : Nat) (k : NestedKey) (v : Value), NestedIs s.heap k v → k.depth ≤ n → pureK k = true → ∀ Q : Bool → Shared → Prop, Q true s → wpAny (model P w) A (hashByValue n v) Q E s := by
  intro n
  induction n with
  | zero =>
    intro k v hk hd hp Q h
    cases hk with
    | none => exact wpAny_pure h
    | bool _ => exact wpAny_pure h
    | int _ _ => exact wpAny_pure h
    | text _ _ => cases hp
    | tup _ _ _ _ => rw [NestedKey.depth] at hd; omega
  | succ n ih =>
    intro k v hk hd hp Q h
    cases hk with
    | none => exact wpAny_pure h
    | bool _ => exact wpAny_pure h
    | int _ _ => exact wpAny_pure h
    | text _ _ => cases hp
    | @tup a o vs m ks h1 h2 h3 h4 =>
      have hks : NestedKey.depthAll ks ≤ n := by rw [NestedKey.depth] at hd; omega
      unfold hashByValue
      refine wpAny_bind (wpAny_specialOf (T := "tuple") ⟨o, h1, h2⟩ F.slot_tuple_hash.lookup ?_)
      refine wpAny_bind (wpAny_seqItems h1 h3 ?_)
      refine wpAny_bind ?_
      show wpAny _ _ (forIn vs _ _) _ _ s
      rw [← Array.forIn_toList]
      refine wpAny_forIn_list _ (fun us r z => z = s ∧ r.1 = none ∧ ∃ js, NestedAll s.heap js us ∧ NestedKey.depthAll js ≤ n ∧ pureKs js = true) _ ?_ ?_ _ _ ⟨rfl, rfl, ks, h4, hks, hp⟩
      · rintro u us r z ⟨rfl, hr, js, hj, hn, hq⟩
        cases hj with
        | @cons j _ js _ j1 j2 =>
          rw [NestedKey.depthAll] at hn
          rw [pureKs, Bool.and_eq_true] at hq
          refine wpAny_bind (ih j u j1 (by omega) hq.1 _ ?_)
          simp only [Bool.not_true, Bool.false_eq_true, if_false]
          exact wpAny_pure ⟨rfl, rfl, js, j2, by omega, hq.2⟩
      · rintro ⟨r1, r2⟩ z ⟨rfl, hr, _⟩
        cases (show r1 = none from hr)
        exact wpAny_pure h
end
/-- the tuple at a is the key k -/
structure IsN (h : Heap) (k : NestedKey) (a : Addr) : Prop where
  is : NestedIs h k (.ref a)
  dp : k.depth ≤ 8
  pu : pureK k = true
section
variable {P : Program} {w : World} {A : Around} {E : Value → Shared → Prop} {s : Shared}
theorem IsN.kd {h : Heap} {k : NestedKey} {a : Addr} (x : IsN h k a) : (nestedKind P w).is h k a := ⟨x.is, x.dp⟩
theorem unseen {k : NestedKey} {b : Addr} {Q : Bool → Shared → Prop} (hb : IsN s.heap k b) (ys : List Value) (hy : ∀ y ∈ ys, ∃ j c, y = Value.ref c ∧ IsN s.heap j c) (h : Q false s) : wpAny (model P w) A (searchCouldBeSeen (.ref b) ys) Q E s := by
  unfold searchCouldBeSeen
  refine wpAny_bind (wpAny_forIn_list _ (fun us r z => z = s ∧ r.1 = none ∧ ∀ y ∈ us, ∃ j c, y = Value.ref c ∧ IsN s.heap j c) _ ?_ ?_ _ _ ⟨rfl, rfl, hy⟩)
  · rintro u us r z ⟨rfl, hr, hall⟩
    obtain ⟨j, c, rfl, hc⟩ := hall u (by simp)
    have later : ∀ y ∈ us, ∃ j c, y = Value.ref c ∧ IsN z.heap j c := fun y m => hall y (List.mem_cons_of_mem _ m)
    dsimp only
    split
    · exact wpAny_pure ⟨rfl, rfl, later⟩
    · refine wpAny_bind ((nestedKind P w).quiet hb.kd ?_)
      simp only [Bool.not_true, Bool.false_eq_true, if_false]
      refine wpAny_bind ((nestedKind P w).quiet hc.kd ?_)
      simp only [Bool.not_true, Bool.false_eq_true, if_false]
      refine wpAny_bind (nested_no 8 k _ hb.is hb.dp _ ?_)
      simp only [Bool.false_eq_true, if_false]
      refine wpAny_bind (nested_no 8 j _ hc.is hc.dp _ ?_)
      simp only [Bool.false_eq_true, if_false]
      exact wpAny_pure ⟨rfl, rfl, later⟩
  · rintro ⟨r1, r2⟩ z ⟨rfl, hr, _⟩
    cases (show r1 = none from hr)
    exact wpAny_pure h
end
end VS
end
section
set_option Elab.async false
set_option linter.all false
set_option maxRecDepth 100000
set_option autoImplicit false
namespace VS
open PySem PySem.Spec PyProof.Rows L2
/-! ### a set of keys -/
abbrev NL := List (Addr × NestedKey)
def rowN (w : World) (p : Addr × NestedKey) : Int × Value := (p.2.hash w, .ref p.1)
def hashN (w : World) (p : Addr × NestedKey) : Int := p.2.hash w
structure SN (w : World) (h : Heap) (a : Addr) (L : NL) (es : Array (Int × Value)) (ep : Nat) (t : SetTable) : Prop where
  obj : ∃ o, h.get? a = some o ∧ o.ExactSet ∧ o.data = .set es ep t
  row : es.toList = L.map (rowN w)
  tab : TabOk t (L.map (hashN w))
  one : (L.map (·.2)).Nodup
  key : ∀ p ∈ L, IsN h p.2 p.1
  pln : t.plain = true
  led : w.params.followText "set-order" = true ∨ t.led = true
  rm : L.length * 5 < t.mask * 3
  few : L.length < 64
section
variable {P : Program} {w : World} {A : Around} {E : Value → Shared → Prop} {s : Shared} {a : Addr} {L : NL} {es : Array (Int × Value)} {ep : Nat} {t : SetTable}
theorem rows_size (h : es.toList = L.map (rowN w)) : es.size = L.length := by
  rw [← Array.length_toList, h, List.length_map]
theorem rows_at (h : es.toList = L.map (rowN w)) {i : Nat} {p : Addr × NestedKey} (hp : L[i]? = some p) : es[i]? = some (rowN w p) := by
  rw [← Array.getElem?_toList, h, List.getElem?_map, hp]; rfl
theorem fits_of {n : Nat} (h1 : t.place.size = n) (h2 : t.dummies = #[]) (h3 : n ≤ t.mask) : t.fits n = true := by
  unfold SetTable.fits SetTable.fill
  rw [h2, Bool.and_eq_true, beq_iff_eq, decide_eq_true_eq]
  exact ⟨h1, by show t.place.size + 0 ≤ t.mask; omega⟩
theorem SN.fit {h : Heap} (R : SN w h a L es ep t) : t.fits es.size = true := by
  have h1 := R.tab.sz
  rw [List.length_map] at h1
  have h3 := R.rm
  exact fits_of (by rw [rows_size R.row]; exact h1) R.tab.dm (by rw [rows_size R.row]; omega)
/-- the c-th state of the way that a hash goes -/
abbrev stN (t : SetTable) (h : Int) (c : Nat) : SetTable.Probe := nth t.mask (runAt t.mask (SetTable.bits h % (t.mask + 1)) (SetTable.bits h)) c
theorem nth_dummy (m : Nat) : ∀ (n : Nat) (p : SetTable.Probe), p.dummy = none → (nth m p n).dummy = none
  | 0, _, h => h
  | n + 1, p, h => nth_dummy m n (adv m p) (by unfold adv; split <;> exact h)
theorem sn_search (R : SN w s.heap a L es ep t) {x : Addr} {k : NestedKey} (hx : IsN s.heap k x) (hu : A.units + 8 < cLine) {N : Nat} (hN : N < 10 * SetTable.turns t.mask)
    (free : way t.mask (k.hash w) N ∉ t.place.toList) (full : ∀ c, c < N → way t.mask (k.hash w) c ∈ t.place.toList) {Q : SetFound → Shared → Prop}
    (there : k ∈ L.map (·.2) → Q (.there none) s) (new : k ∉ L.map (·.2) → Q (.free (way t.mask (k.hash w) N) false) s) :
    ∀ (f c : Nat) (stand : Option SetTable.Probe), stand.getD (t.probeStart (k.hash w)) = stN t (k.hash w) c → c ≤ N → N < f + c →
      (∀ (i : Nat) (p : Addr × NestedKey), L[i]? = some p → p.2 = k → ∃ d, c ≤ d ∧ d < N ∧ t.place.toList[i]? = some (way t.mask (k.hash w) d)) →
      wpAny (model P w) A (setSearchFrom a (.ref x) (k.hash w) true f stand) Q E s := by
  obtain ⟨o, ho, hex, hd⟩ := R.obj
  intro f
  induction f with
  | zero => intro c stand _ h1 h2 _; omega
  | succ f ih =>
    intro c stand hst hc hf ahead
    rw [setSearchFrom_succ]
    refine wpAny_bind (wpAny_setState_of ho hd R.fit ?_)
    dsimp only
    have odd : ¬ t.gaveWay = true := by unfold SetTable.gaveWay; rw [mask_odd R.tab.mok]; decide
    rw [if_neg odd]
    try refine wpAny_bind (wpAny_pure ?_)
    have shift : ∀ q, nth t.mask (stN t (k.hash w) c) q = stN t (k.hash w) (c + q) := fun q => (nth_add t.mask c _ q).symm
    have cN : c + (N - c) = N := by omega
    have hashAt : ∀ (i : Nat) (p : Addr × NestedKey), L[i]? = some p → (es[i]?.map (·.1)).getD 0 = p.2.hash w := fun i p hp => by rw [rows_at R.row hp]; rfl
    have G := go_spec t R.tab.ris R.tab.dm (fun i => (es[i]?.map (·.1)).getD 0) (k.hash w) (10 * SetTable.turns t.mask) (N - c) (stN t (k.hash w) c) (nth_dummy _ _ _ rfl) (by omega)
      (fun q hq => by rw [shift]; exact full _ (by omega)) (by rw [shift, cN]; exact free)
    rcases G with ⟨q, i, hq, hi, _, hno, hgo⟩ | ⟨hno, hgo⟩
    · rw [shift] at hi hgo
      rw [shift] at hgo
      have hpr : t.probe (fun i => (es[i]?.map (·.1)).getD 0) (k.hash w) (stand.getD (t.probeStart (k.hash w))) = some (.candidate (way t.mask (k.hash w) (c + q)) i (stN t (k.hash w) (c + (q + 1)))) := by rw [hst]; exact hgo
      rw [hpr]
      dsimp only
      have hil : i < L.length := by
        have z := R.tab.sz
        rw [List.length_map, ← Array.length_toList] at z
        have := (List.getElem?_eq_some_iff.mp hi).1
        omega
      obtain ⟨p, hp⟩ : ∃ p, L[i]? = some p := ⟨_, List.getElem?_eq_getElem hil⟩
      have pm := List.mem_of_getElem? hp
      have live : t.slot (way t.mask (k.hash w) (c + q)) = .live i := slot_live R.tab.ris hi
      have body : wpAny (model P w) A (searchRest a (.ref x) (k.hash w) true f es t (way t.mask (k.hash w) (c + q)) i (stN t (k.hash w) (c + (q + 1)))) Q E s := by
        unfold searchRest
        rw [rows_at R.row hp]
        simp only [rowN]
        refine wpAny_bind (wpAny_holding ((nestedKind P w).eqBool (show A.units + 8 < cLine from hu) (R.key p pm).kd hx.kd ?_))
        refine wpAny_bind (wpAny_setState_of ho hd R.fit ?_)
        dsimp only
        by_cases e : p.2 = k
        · rw [if_pos (by simp [e])]
          exact wpAny_pure (there (List.mem_map.mpr ⟨p, pm, e⟩))
        · rw [if_neg (by simp [e])]
          try refine wpAny_bind (wpAny_pure ?_)
          rw [sameMem]
          dsimp only
          simp only [if_true, live, rows_at R.row hp, rowN]
          refine wpAny_bind (wpAny_isSame_ref_self (wpAny_bind (wpAny_pure ?_)))
          simp only [if_true]
          rw [if_neg (by simp [e])]
          refine ih (c + (q + 1)) _ rfl (by omega) (by omega) fun j p' hj hk => ?_
          obtain ⟨d, d1, d2, d3⟩ := ahead j p' hj hk
          refine ⟨d, Classical.byContradiction fun hle => ?_, d2, d3⟩
          rcases Nat.lt_or_ge d (c + q) with lt | ge
          · refine hno (d - c) j (by omega) ?_ ?_
            · rw [shift, show c + (d - c) = d by omega]; exact d3
            · exact (hashAt j p' hj).trans (by rw [hk])
          · have ed : d = c + q := by omega
            subst ed
            have z := slot_live R.tab.ris d3
            rw [live] at z
            cases z
            rw [hp] at hj
            cases hj
            exact e hk
      by_cases hl : t.led = true
      · rw [if_neg (by simp [hl])]
        try refine wpAny_bind (wpAny_pure ?_)
        exact body
      · rw [if_pos (by simp [hl])]
        refine wpAny_bind (unseen hx _ (fun y hy => ?_) ?_)
        · obtain ⟨e, he, rfl⟩ := List.mem_map.mp hy
          have he : e ∈ es.toList := by
            have : e ∈ es ∧ e.1 = k.hash w := by simpa using he
            simpa using this.1
          rw [R.row] at he
          obtain ⟨p', hp', rfl⟩ := List.mem_map.mp he
          exact ⟨p'.2, p'.1, rfl, R.key p' hp'⟩
        · rw [if_neg (by decide)]
          try refine wpAny_bind (wpAny_pure ?_)
          exact body
    · rw [shift, cN] at hgo
      have hpr : t.probe (fun i => (es[i]?.map (·.1)).getD 0) (k.hash w) (stand.getD (t.probeStart (k.hash w))) = some (.empty (way t.mask (k.hash w) N) none) := by rw [hst]; exact hgo
      rw [hpr]
      dsimp only
      refine wpAny_pure (new fun hm => ?_)
      obtain ⟨p, hp, hk⟩ := List.mem_map.mp hm
      obtain ⟨i, hi, e⟩ := List.getElem_of_mem hp
      have hi' : L[i]? = some p := by rw [List.getElem?_eq_getElem hi, e]
      obtain ⟨d, d1, d2, d3⟩ := ahead i p hi' hk
      refine hno (d - c) i (by omega) ?_ ((hashAt i p hi').trans (by rw [hk]))
      rw [shift, show c + (d - c) = d by omega]; exact d3
theorem sn_find (R : SN w s.heap a L es ep t) {x : Addr} {k : NestedKey} (hx : IsN s.heap k x) (hu : A.units + 8 < cLine) {Q : SetFound → Shared → Prop}
    (there : k ∈ L.map (·.2) → Q (.there none) s) (new : ∀ N, k ∉ L.map (·.2) → way t.mask (k.hash w) N ∉ t.place.toList → (∀ c, c < N → way t.mask (k.hash w) c ∈ t.place.toList) → Q (.free (way t.mask (k.hash w) N) false) s) :
    wpAny (model P w) A (setSearch a (.ref x) (k.hash w) true) Q E s := by
  have rm := R.rm
  obtain ⟨N, h1, h2, h3⟩ := R.tab.first (by rw [List.length_map]; omega) (k.hash w)
  have big : 10 * SetTable.turns t.mask ≤ 1420 := by
    unfold SetTable.turns
    rcases R.tab.mok with e | e | e <;> omega
  unfold setSearch
  refine sn_search R hx hu h1 h2 h3 there (fun hn => new N hn h2 h3) 100000 0 none rfl (Nat.zero_le _) (by omega) fun i p hp hk => ?_
  have hi : (L.map (hashN w))[i]? = some (k.hash w) := by rw [List.getElem?_map, hp, ← hk]; rfl
  have hil : i < t.place.toList.length := by
    have z := R.tab.sz
    rw [List.length_map, ← Array.length_toList] at z
    have := (List.getElem?_eq_some_iff.mp hp).1
    omega
  obtain ⟨d, d1, d2⟩ := R.tab.before h2 hi (List.getElem?_eq_getElem hil)
  exact ⟨d, Nat.zero_le _, d1, by rw [List.getElem?_eq_getElem hil, d2]⟩
end
end VS
end
section
set_option Elab.async false
set_option linter.all false
set_option maxRecDepth 100000
set_option autoImplicit false
namespace VS
open PySem PySem.Spec PyProof.Rows L2
theorem nested_at {h h' : Heap} {k : NestedKey} {v : Value} (hk : NestedIs h k v) (e : ∀ b o vs n, h.get? b = some o → o.data = .seq vs n → h'.get? b = some o) : NestedIs h' k v := NestedIs.at e k v hk
theorem IsN.keep {h h' : Heap} {k : NestedKey} {b : Addr} (x : IsN h k b) (e : ∀ c o, h.get? c = some o → h'.get? c = some o) : IsN h' k b := ⟨nested_at x.is fun b o _ _ q _ => e b o q, x.dp, x.pu⟩
/-- a set that is changed keeps its keys -/
theorem IsN.but {h h' : Heap} {k : NestedKey} {a b : Addr} {o : Obj} {es : Array (Int × Value)} {ep : Nat} {t : SetTable} (x : IsN h k b) (ho : h.get? a = some o) (hd : o.data = .set es ep t) (hs : Heap.SameBut a h h') : IsN h' k b :=
  ⟨nested_at x.is fun c q us n e1 e2 => (hs.2 c fun z => by
    subst z
    rw [ho] at e1
    cases e1
    rw [hd] at e2
    cases e2).trans e1, x.dp, x.pu⟩
section
variable {P : Program} {w : World} {A : Around} {E : Value → Shared → Prop} {s : Shared} {a : Addr} {L : NL} {es : Array (Int × Value)} {ep : Nat} {t : SetTable}
theorem pick_all {α : Type} (L : List α) : (List.range L.length).filterMap (fun i => L[i]?) = L := by
  have h : (List.range L.length).map (fun i => L[i]?) = L.map some := by
    refine List.ext_getElem? fun i => ?_
    rw [List.getElem?_map, List.getElem?_map]
    by_cases hi : i < L.length
    · rw [List.getElem?_eq_getElem (by simpa using hi), List.getElem?_eq_getElem hi]; simp [hi]
    · rw [List.getElem?_eq_none (by simpa using hi), List.getElem?_eq_none (by simpa using hi)]; rfl
  have e1 : (List.range L.length).filterMap (fun i => L[i]?) = ((List.range L.length).map (fun i => L[i]?)).filterMap id := by rw [List.filterMap_map]; rfl
  rw [e1, h, List.filterMap_map]
  exact List.filterMap_some
/-- the rows in another order -/
theorem rows_order {ord : List Nat} (hr : es.toList = L.map (rowN w)) (hp : ord.Perm (List.range L.length)) :
    ∃ M : NL, ord.filterMap (fun i => es[i]?) = M.map (rowN w) ∧ M.Perm L ∧ M.map (hashN w) = ord.map fun i => (es.map (·.1)).getD i 0 := by
  have key : ∀ l : List Nat, (∀ i ∈ l, i < L.length) → l.filterMap (fun i => es[i]?) = (l.filterMap fun i => L[i]?).map (rowN w) ∧ (l.filterMap fun i => L[i]?).map (hashN w) = l.map fun i => (es.map (·.1)).getD i 0 := by
    intro l
    induction l with
    | nil => intro _; exact ⟨rfl, rfl⟩
    | cons i l ih =>
      intro hl
      obtain ⟨p, e⟩ : ∃ p, L[i]? = some p := ⟨_, List.getElem?_eq_getElem (hl i (by simp))⟩
      obtain ⟨h1, h2⟩ := ih fun j hj => hl j (List.mem_cons_of_mem _ hj)
      rw [List.filterMap_cons_some (rows_at hr e), List.filterMap_cons_some e, List.map_cons, List.map_cons, List.map_cons, h1, h2]
      refine ⟨rfl, ?_⟩
      have : (es.map (·.1)).getD i 0 = hashN w p := by
        rw [Array.getD_eq_getD_getElem?, Array.getElem?_map, rows_at hr e]; rfl
      rw [this]
  obtain ⟨h1, h2⟩ := key ord fun i hi => List.mem_range.mp (hp.mem_iff.mp hi)
  refine ⟨_, h1, ?_, h2⟩
  have := hp.filterMap (fun i => L[i]?)
  rw [pick_all] at this
  exact this
theorem sn_relay {o : Obj} (ho : s.heap.get? a = some o) (hex : o.ExactSet) (hd : o.data = .set es ep t) (row : es.toList = L.map (rowN w)) (sz : t.place.size = L.length) (dm : t.dummies = #[]) (fl : L.length ≤ t.mask)
    (one : (L.map (·.2)).Nodup) (key : ∀ p ∈ L, IsN s.heap p.2 p.1) (pl : t.plain = true) (ld : w.params.followText "set-order" = true ∨ t.led = true) (few : L.length < 64) {wanted M : Nat}
    (hw : SetTable.sizeAbove wanted - 1 = M) (hM : MaskOk M) (hw2 : SetTable.sizeAbove wanted ≤ 128) (hn : L.length * 5 < M * 3) {Q : Unit → Shared → Prop}
    (hQ : ∀ h' L' es' ep' t', Heap.SameBut a s.heap h' → SN w h' a L' es' ep' t' → L'.Perm L → Q () { s with heap := h' }) : wpAny (model P w) A (setRelay a wanted) Q E s := by
  have esz := rows_size row
  obtain ⟨t', order, e, hp, T, em, el, epl, ed⟩ := relaid_ok t (hs := es.map (·.1)) (wanted := wanted) hw hM (by rw [Array.size_map, esz]; omega)
  rw [Array.size_map, esz] at hp
  obtain ⟨M', r1, r2, r3⟩ := rows_order row hp
  rw [← r3] at T
  have rl : (order.filterMap (es[·]?)).toList = M'.map (rowN w) := by rw [Array.toList_filterMap]; exact r1
  have s2 : (order.filterMap (es[·]?)).size = L.length := by rw [rows_size rl, r2.length_eq]
  rw [setRelay_eq]
  refine wpAny_bind (wpAny_setState_of ho hd (fits_of (by rw [esz]; exact sz) dm (by rw [esz]; exact fl)) ?_)
  dsimp only
  rw [if_neg (by rw [sizeLine_eq]; omega)]
  try refine wpAny_bind (wpAny_pure ?_)
  rw [e]
  dsimp only
  refine wpAny_bind ?_
  rw [if_neg (by rw [s2, esz]; simp)]
  try refine wpAny_bind (wpAny_pure ?_)
  refine wpAny_pure ?_
  dsimp only
  refine wpAny_storeSet_of ho hd ?_ (by rw [s2, sizeLine_eq]; omega)
  have sb : Heap.SameBut a s.heap (s.heap.update a (Obj.putSet (order.filterMap (es[·]?)) t')) := Heap.SameBut.update ..
  exact hQ _ M' _ (ep + 1) t' sb ⟨⟨_, store_at ho hd, ⟨hex.1, hex.2.1, hex.2.2⟩, rfl⟩, rl, T, (r2.map (·.2)).nodup_iff.mpr one, fun p hm => (key p (r2.mem_iff.mp hm)).but ho hd sb, by rw [epl]; exact pl, by rw [el]; exact ld, by rw [r2.length_eq, em]; exact hn, by rw [r2.length_eq]; exact few⟩ r2
theorem sn_add (R : SN w s.heap a L es ep t) {x : Addr} {k : NestedKey} (hx : IsN s.heap k x) (hu : A.units + 8 < cLine) (hfew : k ∉ L.map (·.2) → L.length + 1 < 64) {Q : Bool → Shared → Prop}
    (hQ : ∀ b h' L' es' ep' t', Heap.SameBut a s.heap h' → SN w h' a L' es' ep' t' → (k ∈ L.map (·.2) ∧ L' = L) ∨ (k ∉ L.map (·.2) ∧ L'.Perm ((x, k) :: L)) → Q b { s with heap := h' }) :
    wpAny (model P w) A (setAddHashed a (.ref x) (k.hash w)) Q E s := by
  obtain ⟨o, ho, hex, hd⟩ := R.obj
  have esz := rows_size R.row
  have rm := R.rm
  unfold setAddHashed
  refine wpAny_holding ?_
  rw [show (100000 : Nat) = 99999 + 1 from rfl, setAddHashedIn_succ]
  refine wpAny_bind (wpAny_setState_of ho hd R.fit ?_)
  dsimp only
  rw [if_neg (by simp [byScan, Value.scannable])]
  try refine wpAny_bind (wpAny_pure ?_)
  refine wpAny_bind (sn_find R hx hu (fun hm => ?_) fun N hm free full => ?_)
  · exact wpAny_pure (hQ false s.heap L es ep t (Heap.SameBut.refl a s.heap) R (.inl ⟨hm, rfl⟩))
  · have hfew := hfew hm
    dsimp only
    refine wpAny_bind (wpAny_setState_of ho hd R.fit ?_)
    dsimp only
    obtain ⟨q1, q2, q3, q4, q5, q6, q7, q8, q9⟩ := R.tab.put free full
    rw [List.length_map] at q2 q9
    have pl1 : (t.put (way t.mask (k.hash w) N)).1.plain = true := by rw [q6]; exact R.pln
    generalize t.put (way t.mask (k.hash w) N) = pt at q1 q3 q4 q5 q6 q7 q8 q9 pl1 ⊢
    obtain ⟨t1, at1⟩ := pt
    dsimp only at q1 q3 q4 q5 q6 q7 q8 q9 pl1 ⊢
    subst q1
    generalize SetTable.below t.place (way t.mask (k.hash w) N) = at1 at q2 q3 ⊢
    have pm := put_perm L at1 (x, k)
    have row1 : (SetTable.insertAt es at1 (k.hash w, Value.ref x)).toList = (L.take at1 ++ (x, k) :: L.drop at1).map (rowN w) := by
      rw [SetTable.toList_insertAt, R.row, List.map_append, List.map_cons, List.map_take, List.map_drop]; rfl
    have tab1 : TabOk t1 ((L.take at1 ++ (x, k) :: L.drop at1).map (hashN w)) := by
      rw [List.map_append, List.map_cons, List.map_take, List.map_drop]; exact q3
    have one1 : ((L.take at1 ++ (x, k) :: L.drop at1).map (·.2)).Nodup := (pm.map (·.2)).nodup_iff.mpr (by rw [List.map_cons]; exact List.nodup_cons.mpr ⟨hm, R.one⟩)
    have len1 : (L.take at1 ++ (x, k) :: L.drop at1).length = L.length + 1 := pm.length_eq
    generalize L.take at1 ++ (x, k) :: L.drop at1 = L1 at pm row1 tab1 one1 len1
    generalize SetTable.insertAt es at1 (k.hash w, Value.ref x) = es1 at row1 ⊢
    have es1z : es1.size = L.length + 1 := by rw [rows_size row1, len1]
    first
      | refine wpAny_bind (?_ : wpAny _ _ (if t1.plain = true then hashByValue 8 (Value.ref x) else pure true) _ _ _)
      | skip
    rw [if_pos pl1]
    first
      | refine nested_plain 8 k _ hx.is hx.dp hx.pu _ ?_
      | refine wpAny_bind (nested_plain 8 k _ hx.is hx.dp hx.pu _ ?_)
    simp only [if_true]
    refine wpAny_bind (wpAny_storeSet_of ho hd ?_ (by rw [es1z, sizeLine_eq]; omega))
    have sb : Heap.SameBut a s.heap (s.heap.update a (Obj.putSet es1 t1)) := Heap.SameBut.update ..
    have ho1 := store_at (es' := es1) (t' := t1) ho hd
    generalize s.heap.update a (Obj.putSet es1 t1) = h1 at sb ho1 ⊢
    have key1 : ∀ p ∈ L1, IsN h1 p.2 p.1 := fun p hp => by
      rcases List.mem_cons.mp (pm.mem_iff.mp hp) with e | hp
      · subst e; exact hx.but ho hd sb
      · exact (R.key p hp).but ho hd sb
    have ld1 : w.params.followText "set-order" = true ∨ t1.led = true := by rw [q5]; exact R.led
    have full1 : t1.tooFull = decide ((L.length + 1) * 5 ≥ t.mask * 3) := by unfold SetTable.tooFull; rw [q9, q4]
    by_cases hf : (L.length + 1) * 5 ≥ t.mask * 3
    · rw [decide_eq_true hf] at full1
      have two : (t.mask = 7 ∧ L.length = 4) ∨ (t.mask = 31 ∧ L.length = 18) := by
        rcases R.tab.mok with e | e | e <;> rw [e] at hf rm
        · exact .inl ⟨e, by omega⟩
        · exact .inr ⟨e, by omega⟩
        · omega
      first
        | (refine wpAny_bind ?_; rw [if_pos (by simp [full1])])
        | (rw [if_pos (by simp [full1])]; refine wpAny_bind ?_)
      rw [esz]
      have go : ∀ M, SetTable.sizeAbove (SetTable.grown (L.length + 1)) - 1 = M → MaskOk M → SetTable.sizeAbove (SetTable.grown (L.length + 1)) ≤ 128 → (L.length + 1) * 5 < M * 3 →
          wpAny (model P w) A (setRelay a (SetTable.grown (L.length + 1))) (fun _ z => wpAny (model P w) A (pure true) Q E z) E { s with heap := h1 } := fun M m1 m2 m3 m4 =>
        sn_relay (s := { s with heap := h1 }) ho1 ⟨hex.1, hex.2.1, hex.2.2⟩ rfl row1 (by have z := tab1.sz; rw [List.length_map] at z; exact z) tab1.dm (by rw [len1, q4]; rcases two with ⟨e, e2⟩ | ⟨e, e2⟩ <;> omega) one1 key1 pl1 ld1 (by rw [len1]; exact hfew) m1 m2 m3 (by rw [len1]; exact m4)
          fun h2 L2 es2 ep2 t2 sb2 R2 pm2 => wpAny_pure (hQ true h2 L2 es2 ep2 t2 (sb.trans sb2) R2 (.inr ⟨hm, pm2.trans pm⟩))
      rcases two with ⟨_, e2⟩ | ⟨_, e2⟩
      · exact go 31 (by rw [e2, size_20]) (.inr (.inl rfl)) (by rw [e2, size_20]; decide) (by omega)
      · exact go 127 (by rw [e2, size_76]) (.inr (.inr rfl)) (by rw [e2, size_76]; decide) (by omega)
    · rw [decide_eq_false hf] at full1
      first
        | rw [if_neg (by simp [full1])]
        | (refine wpAny_bind ?_; rw [if_neg (by simp [full1])]; refine wpAny_pure ?_)
      exact wpAny_pure (hQ true h1 L1 es1 (ep + 1) t1 sb ⟨⟨_, ho1, ⟨hex.1, hex.2.1, hex.2.2⟩, rfl⟩, row1, tab1, one1, key1, pl1, ld1, by rw [len1, q4]; omega, by rw [len1]; exact hfew⟩ (.inr ⟨hm, pm⟩))
end
end VS
end
section
set_option Elab.async false
set_option linter.all false
set_option maxRecDepth 100000
set_option autoImplicit false
namespace VS
open PySem PySem.Spec PyProof.Rows L2
/-- what a set holds after the first i of ks -/
structure Held (ks : NL) (i : Nat) (L : NL) : Prop where
  sub : ∀ p ∈ L, p ∈ ks
  all : ∀ p ∈ ks.take i, p.2 ∈ L.map (·.2)
theorem Held.next {ks L L' : NL} {i : Nat} {p : Addr × NestedKey} (g : Held ks i L) (hp : ks[i]? = some p) (h : (p.2 ∈ L.map (·.2) ∧ L' = L) ∨ (p.2 ∉ L.map (·.2) ∧ L'.Perm (p :: L))) : Held ks (i + 1) L' := by
  have et : ks.take (i + 1) = ks.take i ++ [p] := by rw [List.take_add_one, hp]; rfl
  rcases h with ⟨hm, rfl⟩ | ⟨hm, pm⟩
  · refine ⟨g.sub, fun q hq => ?_⟩
    rw [et] at hq
    rcases List.mem_append.mp hq with z | z
    · exact g.all q z
    · rw [List.mem_singleton.mp z]; exact hm
  · refine ⟨fun q hq => ?_, fun q hq => ?_⟩
    · rcases List.mem_cons.mp (pm.mem_iff.mp hq) with e | z
      · rw [e]; exact List.mem_of_getElem? hp
      · exact g.sub q z
    · rw [(pm.map (·.2)).mem_iff, List.map_cons]
      rw [et] at hq
      rcases List.mem_append.mp hq with z | z
      · exact List.mem_cons_of_mem _ (g.all q z)
      · rw [List.mem_singleton.mp z]; exact List.mem_cons_self
/-- fewer than 64 different keys -/
def Few (ks : NL) : Prop := ∃ D : List NestedKey, D.length < 64 ∧ ∀ p ∈ ks, p.2 ∈ D
theorem nodup_lenN : ∀ (l D : List NestedKey), l.Nodup → (∀ x ∈ l, x ∈ D) → l.length ≤ D.length
  | [], D, _, _ => Nat.zero_le _
  | x :: l, D, hn, h => by
    obtain ⟨h1, h2⟩ := List.nodup_cons.mp hn
    have hx : x ∈ D := h x List.mem_cons_self
    have hD : ∀ y ∈ l, y ∈ D.filter fun z => decide (z ≠ x) := fun y hy => List.mem_filter.mpr ⟨h y (List.mem_cons_of_mem _ hy), decide_eq_true fun e => h1 (e ▸ hy)⟩
    have ih := nodup_lenN l _ h2 hD
    have : (D.filter fun z => decide (z ≠ x)).length < D.length := List.length_filter_lt_length_iff_exists.mpr ⟨x, hx, by simp⟩
    rw [List.length_cons]; omega
theorem Few.room {ks L : NL} {p : Addr × NestedKey} (f : Few ks) (sub : ∀ q ∈ L, q ∈ ks) (one : (L.map (·.2)).Nodup) (hp : p ∈ ks) (hm : p.2 ∉ L.map (·.2)) : L.length + 1 < 64 := by
  obtain ⟨D, h1, h2⟩ := f
  have := nodup_lenN (p.2 :: L.map (·.2)) D (List.nodup_cons.mpr ⟨hm, one⟩) fun x hx => by
    rcases List.mem_cons.mp hx with e | hx
    · rw [e]; exact h2 p hp
    · obtain ⟨q, hq, rfl⟩ := List.mem_map.mp hx
      exact h2 q (sub q hq)
  rw [List.length_cons, List.length_map] at this
  omega
section
variable {P : Program} {w : World} {A : Around} {E : Value → Shared → Prop} {s : Shared}
theorem SN.keep {h h' : Heap} {a : Addr} {L : NL} {es : Array (Int × Value)} {ep : Nat} {t : SetTable} (R : SN w h a L es ep t) (ha : ∀ o, h.get? a = some o → h'.get? a = some o) (hk : ∀ p ∈ L, IsN h' p.2 p.1) : SN w h' a L es ep t :=
  ⟨let ⟨o, ho, r⟩ := R.obj; ⟨o, ha o ho, r⟩, R.row, R.tab, R.one, hk, R.pln, R.led, R.rm, R.few⟩
def set0 (w : World) : Obj := { cls := .type "set", dict := none, data := .set #[] 0 (.fresh 0 0 (!w.params.followText "set-order")) }
theorem sn_new {h : Heap} {a : Addr} (ho : h.get? a = some (set0 w)) : SN w h a [] #[] 0 (.fresh 0 0 (!w.params.followText "set-order")) where
  obj := ⟨_, ho, ⟨rfl, rfl, rfl⟩, rfl⟩
  row := rfl
  tab := ⟨.nil, rfl, rfl, .inl rfl, (fun x hx => nomatch hx), fun i h j hi => by simp at hi⟩
  one := .nil
  key := fun p hp => nomatch hp
  pln := rfl
  led := by
    show w.params.followText "set-order" = true ∨ (!w.params.followText "set-order") = true
    cases w.params.followText "set-order"
    · exact .inr rfl
    · exact .inl rfl
  rm := show 0 * 5 < 7 * 3 by decide
  few := show 0 < 64 by decide
/-- the loop of set.update -/
theorem sn_loop {I : Addr} {fp wr : List Addr} {G : Array GenState → Array GenState → Prop} {n : Nat} {Pv : Nat → Value → Prop} {St : Nat → Shared → Prop} {R : Result → Shared → Prop}
    (W : WalksS P w A.in1 I fp wr G n Pv St) {S : Addr} (hS : S ∉ fp) {ks : NL} (hn : n = ks.length) (few : Few ks) (hv : ∀ i v, Pv i v → ∃ p, ks[i]? = some p ∧ v = .ref p.1)
    {h0 : Heap} (hk : ∀ p ∈ ks, IsN h0 p.2 p.1) (S0 : h0.get? S = none) (w0 : ∀ b ∈ wr, h0.get? b = none) (hu : A.in1.units + 8 < cLine) :
    ∀ (m i : Nat) (s : Shared), i + m = n → St i s → (∀ b o, h0.get? b = some o → s.heap.get? b = some o) → (∃ L es ep t, SN w s.heap S L es ep t ∧ Held ks i L) →
      (∀ s' L es ep t, Moved (S :: wr) G s s' → SN w s'.heap S L es ep t → Held ks n L → (∀ b o, h0.get? b = some o → s'.heap.get? b = some o) → R (.ok (.ret .none)) s') →
      codeAny (model P w) A (.builtin "set.update.loop" ⟨[.ref S, .ref I], []⟩) R s := by
  have hSw : S ∉ wr := fun z => hS (W.sub _ z)
  have up : ∀ b ∈ wr, b ∈ S :: wr := fun b hb => List.mem_cons_of_mem _ hb
  have keep : ∀ {s s' : Shared}, Moved wr G s s' → (∀ b o, h0.get? b = some o → s.heap.get? b = some o) → ∀ b o, h0.get? b = some o → s'.heap.get? b = some o := fun hm hp b o e =>
    hm.heap b o (fun hb => by rw [w0 b hb] at e; cases e) (hp b o e)
  intro m
  induction m with
  | zero =>
    rintro i s rfl hst hkp ⟨L, es, ep, t, R0, g⟩ hR
    refine codeAny_builtin F.entry_set_update_loop ?_
    rw [Around.under_plainId F.plain_set_update_loop _]
    show wpAny _ A.in1 (pyNext (.ref I) >>= _) _ _ s
    refine wpAny_bind (W.done s _ _ hst fun s' hm => ?_)
    have hkp' := keep hm hkp
    exact wpAny_pure (hR s' L es ep t (hm.mono up) (R0.keep (fun o e => hm.heap S o hSw e) fun p hp => (hk p (g.sub p hp)).keep hkp') g hkp')
  | succ m ih =>
    intro i s him hst hkp ⟨L, es, ep, t, R0, g⟩ hR
    have hlt : i < n := by omega
    refine codeAny_builtin F.entry_set_update_loop ?_
    rw [Around.under_plainId F.plain_set_update_loop _]
    show wpAny _ A.in1 (pyNext (.ref I) >>= _) _ _ s
    refine wpAny_bind (W.item i s _ _ hlt hst fun v s' hP hst' hm => ?_)
    obtain ⟨p, hp, rfl⟩ := hv i v hP
    have hkp' := keep hm hkp
    have pk := List.mem_of_getElem? hp
    have R1 : SN w s'.heap S L es ep t := R0.keep (fun o e => hm.heap S o hSw e) fun q hq => (hk q (g.sub q hq)).keep hkp'
    have hx : IsN s'.heap p.2 p.1 := (hk p pk).keep hkp'
    show wpAny _ A.in1 (holding [Value.ref p.1] (setAdd S (.ref p.1)) >>= _) _ _ s'
    refine wpAny_bind (wpAny_holding ?_)
    unfold setAdd
    refine wpAny_holding (wpAny_bind ((nestedKind P w).pyHash (show A.in1.units + 8 < cLine from hu) hx.kd ?_))
    refine sn_add (s := { s' with toks := s'.toks + p.2.draws }) R1 hx hu (fun hm => few.room g.sub R1.one pk hm) fun b h' L' es' ep' t' sb R2 c => ?_
    have hkp2 : ∀ b o, h0.get? b = some o → h'.get? b = some o := fun b o e => (sb.2 b (fun z => by rw [z, S0] at e; cases e)).trans (hkp' b o e)
    refine wpAny_pure ⟨plainId_quiet F.plain_set_update_loop _, ih (i + 1) _ (by omega) (W.frame _ s' _ _ hst' (Nat.le_add_right _ _) fun b hb o e => ?_) hkp2 ⟨L', es', ep', t', R2, g.next hp c⟩ fun s2 L2 es2 ep2 t2 hm2 R3 g3 hkp3 => ?_⟩
    · exact (sb.2 b fun z => hS (z ▸ hb)).trans e
    · refine hR s2 L2 es2 ep2 t2 (Moved.trans W.gtrans ((hm.mono up).then_heap (Nat.le_add_right _ _) fun b o hb e => ?_) hm2) R3 g3 hkp3
      exact (sb.2 b fun z => hb (by rw [z]; exact List.mem_cons_self)).trans e
end
end VS
end
section
set_option Elab.async false
set_option linter.all false
set_option maxRecDepth 100000
set_option autoImplicit false
namespace VS
open PySem PySem.Spec PyProof.Rows L2 PySem.W PySem.SeqAt
theorem Held.zero (ks : NL) : Held ks 0 [] := ⟨(fun p hp => nomatch hp), (fun p hp => by simp at hp)⟩
section
variable {P : Program} {w : World} {A : Around} {E : Value → Shared → Prop} {s : Shared}
set_option maxRecDepth 100000 in
set_option maxHeartbeats 3200000 in
/-- set(xs), xs a list of keys -/
theorem sn_call {l : Addr} {xs : Array Value} (ks : NL) {Q : Value → Shared → Prop} (hq : A.handled = none) (hl : s.heap.IsList l xs) (hx : xs.toList = ks.map fun p => Value.ref p.1)
    (hk : ∀ p ∈ ks, IsN s.heap p.2 p.1) (few : Few ks) (hu : A.units + 3 + 8 < cLine)
    (h : ∀ (h' : Heap) (tk : Nat) L es ep t, SN w h' s.heap.objs.size L es ep t → Held ks ks.length L → (∀ b o, s.heap.get? b = some o → h'.get? b = some o) → Q (.ref s.heap.objs.size) { s with heap := h', toks := tk }) :
    wpAny (model P w) A (call (.type "set") [.ref l]) Q E s := by
  have xn : xs.size = ks.length := by rw [← Array.length_toList, hx, List.length_map]
  obtain ⟨c, tl, cm⟩ := F.called_set.mro
  have c1 := F.called_set.made
  have c2 := F.called_set.sub
  refine wpAny_call (codeAny_of_tree ?_)
  show wpAny _ _ (callAny (.type "set") _) _ _ _
  refine wpAny_pure ⟨Code.quiet_builtin _ (by decide +kernel), codeAny_builtin F.entry_type_call ?_⟩
  rw [Around.under_plain (weight_type_call_type "set" [.ref l] []) rfl]
  have c3 := F.called_set.notType
  have c4 := F.called_set.canCreate
  have c5 := F.typeCall_set_1 (.ref l)
  repeat (any_goals (first | assumption | wp_step))
  refine codeAny_mono (code_set_led1 (.ref l) (E := E) (Q₁ := fun ob z => ob = .ref s.heap.objs.size ∧ z = { s with heap := s.heap.push (set0 w) }) ⟨rfl, rfl⟩) fun r z hr => ?_
  cases r with
  | error e => exact hr
  | ok fl =>
    cases fl with
    | ret ob =>
      obtain ⟨rfl, rfl⟩ := hr
      have g0 : (s.heap.push (set0 w)).get? s.heap.objs.size = some (set0 w) := Heap.get?_push_size _ rfl
      have ty : Shared.TypeIs { s with heap := s.heap.push (set0 w) } (.ref s.heap.objs.size) "set" := ⟨_, g0, rfl⟩
      have i1 := F.called_set.init.lookup
      have i2 := F.called_set.init.bind (.ref s.heap.objs.size)
      repeat (any_goals (first | assumption | wp_step))
      refine codeAny_mono (codeAny_call_builtin (R := wants (fun r z => r = .none ∧ ∃ h' tk L es ep t, z = { s with heap := h', toks := tk } ∧ SN w h' s.heap.objs.size L es ep t ∧ Held ks ks.length L ∧
          (∀ b o, s.heap.get? b = some o → h'.get? b = some o)) E) F.called_set.init.plain F.entry_set_init (check_set_init_1 ty ?_)) fun r2 z2 hr2 => ?_
      · obtain ⟨ol, ho, hc, nl, hd⟩ := hl
        obtain ⟨oc, od, odt, osl⟩ := ol
        simp only at hc hd
        subst hc; subst hd
        have ho1 : (s.heap.push (set0 w)).get? l = some { cls := .type "list", dict := od, data := .seq xs nl, slots := osl } := Heap.get?_push_of_some _ ho
        have b1 := F.sub_list_set
        have b2 := F.sub_list_frozenset
        have b3 : (Value.type "list" == Value.type "dict") = false := by decide
        have hl1 : (s.heap.push (set0 w)).IsList l xs := ⟨_, ho1, rfl, nl, rfl⟩
        unfold Builtin.«set.__init__» noKeywords Builtin.Frozenset.updateFrom
        generalize hPI : pyIter = PI
        wp_walk
        subst hPI
        refine wpAny_pyIter_list hl1 ?_
        refine wpAny_bind (wpAny_runValue ?_)
        have lS : l < s.heap.objs.size := Heap.lt_size ho
        have hq3 : A.in1.in1.in1.handled = none := by simp [hq]
        have lI : l ≠ (s.heap.push (set0 w)).objs.size := by
          rw [Heap.size_push]; exact Nat.ne_of_lt (Nat.lt_succ_of_lt lS)
        have Sf : s.heap.objs.size ∉ [(s.heap.push (set0 w)).objs.size, l] := by
          rw [Heap.size_push]
          intro z
          rcases List.mem_cons.mp z with z | z
          · exact absurd z (Nat.ne_of_lt (Nat.lt_succ_self _))
          · exact absurd (List.mem_singleton.mp z) (Nat.ne_of_gt lS)
        have hv : ∀ (i : Nat) (v : Value), xs[i]? = some v → ∃ p, ks[i]? = some p ∧ v = .ref p.1 := fun i v e => by
          rw [← Array.getElem?_toList, hx, List.getElem?_map] at e
          obtain ⟨p, hp, rfl⟩ := Option.map_eq_some_iff.mp e
          exact ⟨p, hp, rfl⟩
        have nn : ∀ b, s.heap.objs.size ≤ b → s.heap.get? b = none := fun b hb => by
          cases q : s.heap.get? b with
          | none => rfl
          | some o => exact absurd (Nat.lt_of_lt_of_le (Heap.lt_size q) hb) (Nat.lt_irrefl _)
        refine sn_loop ((Walks.list hq3 _ l lI xs).toS) (S := s.heap.objs.size) Sf xn few hv (h0 := s.heap) hk (nn _ (Nat.le_refl _))
          (fun b hb => nn b (by rw [List.mem_singleton.mp hb, Heap.size_push]; exact Nat.le_succ _)) hu xs.size 0 _ (by omega)
          ⟨⟨_, Heap.get?_push_size _ rfl, rfl, rfl⟩, (hl1.push _)⟩ (fun b o e => Heap.get?_push_of_some _ (Heap.get?_push_of_some _ e)) ?h0 ?hR
        case h0 => exact ⟨[], #[], 0, _, sn_new (Heap.get?_push_of_some _ g0), .zero ks⟩
        case hR =>
          intro z L es ep t hm R g hkp
          obtain ⟨h', g2, d', tk', os'⟩ := z
          have eg : g2 = s.gens := hm.gens
          have ed : d' = s.drawn := hm.drawn
          have eo : os' = s.os := hm.os
          subst eg; subst ed; subst eo
          refine wpAny_pure ?_
          show wpAny _ _ (ret Value.none) _ _ _
          rw [xn] at g
          exact wpAny_pure ⟨rfl, h', tk', L, es, ep, t, rfl, R, g, hkp⟩
      · cases r2 with
        | error e => exact hr2
        | ok f2 =>
          cases f2 with
          | ret r =>
            obtain ⟨rfl, h', tk, L, es, ep, t, rfl, R, g, hk'⟩ := hr2
            repeat (any_goals (first | assumption | wp_step))
            exact h _ _ _ _ _ _ R g hk'
          | _ => exact hr2.elim
    | _ => exact hr.elim
end
/-! ### sorted(set) -/
/-- tuples that can be sorted in any order -/
def sortN (ds : List PyData) : Bool := ds.all (fun d => ds.all fun e => PySem.W.alike d e) && ds.all (fun d => decide (d.depth ≤ 8)) && ds.all (fun d => match d with | .tuple (_ :: _) => true | _ => false)
theorem sortN_B {ds es : List PyData} (h : sortN ds = true) (hs : ∀ d ∈ es, d ∈ ds) (hl : es.length ≤ lim) : sortB es = true := by
  simp only [sortN, Bool.and_eq_true, List.all_eq_true] at h
  simp only [sortB, Bool.and_eq_true, Bool.or_eq_true, List.all_eq_true]
  exact ⟨⟨⟨fun d hd e he => h.1.1 d (hs d hd) e (hs e he), fun d hd => h.1.2 d (hs d hd)⟩, decide_eq_true hl⟩, .inl (.inl fun d hd => h.2 d (hs d hd))⟩
theorem data_inj {j k : NestedKey} (hj : pureK j = true) (hk : pureK k = true) (e : j.data = k.data) : j = k := by
  have h1 := nkOf_of j hj
  rw [e, nkOf_of k hk] at h1
  exact (Option.some.inj h1).symm
theorem nodup_dat : ∀ {l : List NestedKey}, (∀ k ∈ l, pureK k = true) → l.Nodup → (l.map (·.data)).Nodup
  | [], _, _ => .nil
  | k :: l, hp, hn => by
    obtain ⟨h1, h2⟩ := List.nodup_cons.mp hn
    refine List.nodup_cons.mpr ⟨fun hm => ?_, nodup_dat (fun j hj => hp j (List.mem_cons_of_mem _ hj)) h2⟩
    obtain ⟨j, hj, e⟩ := List.mem_map.mp hm
    exact h1 (data_inj (hp j (List.mem_cons_of_mem _ hj)) (hp k (by simp)) e ▸ hj)
def tSortSN (K : PySem.W.Frag) (ta : TE) : TE := fun σ H Q => ta σ H fun x H1 => ∃ (l : Addr) (ks : NL), x = .ref l ∧ SqL K H1 l (ks.map fun p => V.ref p.1) ∧ (∀ p ∈ ks, Dq K H1 (.ref p.1) p.2.data ∧ p.2.depth ≤ 8 ∧ pureK p.2 = true) ∧ Few ks ∧ sortN (ks.map (·.2.data)) = true ∧
  ∀ ys ds, ds.Nodup → (∀ d, d ∈ ds ↔ d ∈ ks.map (·.2.data)) → EachIs (fun y d => ∃ q ∈ ks, y = V.ref q.1 ∧ d = q.2.data) ys (sortedL ds) → ∀ p, H1 p = none → Q (.ref p) (upd H1 p (.lst ys))
theorem nl_vals : ∀ {ks : NL} {us : List Value}, Vals (ks.map fun p => V.ref p.1) us → us = ks.map fun p => Value.ref p.1
  | [], _, .nil => rfl
  | p :: ks, _, .cons r t => by
    cases r
    rw [nl_vals t]; rfl
theorem perm_lift {L : NL} : ∀ {vs : List Value}, (∀ v ∈ vs, ∃ q ∈ L, v = Value.ref q.1) → ∃ M : NL, vs = M.map (fun q => Value.ref q.1) ∧ ∀ q ∈ M, q ∈ L
  | [], _ => ⟨[], rfl, fun q hq => nomatch hq⟩
  | v :: vs, h => by
    obtain ⟨q, hq, rfl⟩ := h v (by simp)
    obtain ⟨M, rfl, hM⟩ := perm_lift fun u hu => h u (List.mem_cons_of_mem _ hu)
    exact ⟨q :: M, rfl, fun r hr => (List.mem_cons.mp hr).elim (fun e => e ▸ hq) (hM r)⟩
theorem isn_inj {h : Heap} {j k : NestedKey} {a : Addr} (x : IsN h j a) (y : IsN h k a) : j = k := NestedIs.inj _ _ _ x.is y.is
section
variable {X : Cx} {xc : Nat → Addr} {W : WX} {k : Kd} {e a b c : Expr} {g ga gb gc : Rho → RE PyData} {pos p p1 p2 q2 : Pos}
theorem pe_sortSN {ta : TE} (hc : X.calm = true) (hu : X.A.units + 65 < cLine) (hg : Gl X "sorted") (hm : X.mg "sorted" = none) (hg2 : Gl X "set") (hm2 : X.mg "set" = none) (ha : PE X a ta)
    (na : starEach [a] X.env = (false, eval a X.env) :: starEach [] X.env := by rfl) (nb : starEach [.Call (.Name "set" p1) [a] [] p2] X.env = (false, eval (.Call (.Name "set" p1) [a] [] p2) X.env) :: starEach [] X.env := by rfl) : PE X (.Call (.Name "sorted" p) [.Call (.Name "set" p1) [a] [] p2] [] pos) (tSortSN X.K ta) := by
  refine ⟨fun pins s σ H Q I h => ?_⟩
  refine Call_ (ld_blt I hg hm boot_sorted ?_)
  refine PyProof.Rows.callWith_builtin1 (PyProof.Rows.args_cons ?_ nb) nb rfl
  refine Call_ (ld_blt I hg2 hm2 PyProof.Rows.boot_set ?_)
  refine PyProof.Rows.callWith_type1 (PyProof.Rows.args_cons (thn (ha.run pins s σ H _ I h) fun v s1 ⟨x, H1, I1, r1, q1⟩ => PyProof.Rows.args_nil ?_) na) na rfl
  obtain ⟨l, ks, rfl, hl, hk, few, hb, q1⟩ := q1
  cases r1
  obtain ⟨its, rv, pl, hz⟩ := I1.list hl
  have hn0 : ∀ p ∈ ks, IsN s1.heap p.2 p.1 := fun p hp => ⟨nk_is I1.hok p.2 (hk p hp).1 rfl, (hk p hp).2.1, (hk p hp).2.2⟩
  refine sn_call ks (I1.ok.hd hc) pl.isList (by simpa using nl_vals rv) hn0 few (by omega) fun h' tk L es ep t R g kk => ?_
  refine PyProof.Rows.args_nil ?_
  have I2 : Inv X pins σ H1 { s1 with heap := h', toks := tk } := I1.kept kk
  obtain ⟨o, ho, hex, hd⟩ := R.obj
  have hall : ∀ p ∈ ks, p.2 ∈ L.map (·.2) := fun p hp => g.all p (by rw [List.take_length]; exact hp)
  have hes : es.toList.map (·.2) = L.map fun q => Value.ref q.1 := by
    rw [R.row, List.map_map]; rfl
  have one : ∀ q ∈ L, ∀ r ∈ L, q.1 = r.1 → q = r := fun q hq r hr e => by
    have a1 := R.key q hq
    rw [e] at a1
    exact Prod.ext e (isn_inj a1 (R.key r hr))
  refine sorted_from (A := X.A) (s := { s1 with heap := h', toks := tk }) (R := fun u d => ∃ x, (∃ q ∈ ks, x = V.ref q.1 ∧ d = q.2.data) ∧ RelV x u) (Pd := fun ds => ds.Nodup ∧ (∀ d, d ∈ ds ↔ d ∈ ks.map (·.2.data)) ∧ ds.length < 64) (fun E' R' hR => ?_) (fun ds hds => sortN_B hb (fun d hd => (hds.2.1 d).mp hd) (by have := hds.2.2; unfold lim; omega)) (by omega) ?_
  · refine collect_set (A := X.A.in1) (I2.ok.hd hc) ⟨o, ho, hex.1, hd⟩ R.fit (by rw [rows_size R.row]; have := R.few; unfold scanBound; omega) R.tab.ris R.led fun s2 vs k1 _ g1 o1 pm => ?_
    rw [hes] at pm
    obtain ⟨M, rfl, hM⟩ := perm_lift (L := L) fun v hv => by
      obtain ⟨q, hq, e⟩ := List.mem_map.mp (pm.mem_iff.mp hv)
      exact ⟨q, hq, e.symm⟩
    have mem : ∀ q, q ∈ M ↔ q ∈ L := fun q => ⟨hM q, fun hq => by
      obtain ⟨r, hr, e⟩ := List.mem_map.mp (pm.mem_iff.mpr (List.mem_map.mpr ⟨q, hq, rfl⟩))
      injection e with e
      rw [← one r (hM r hr) q hq e]; exact hr⟩
    have nL : L.Nodup := nodup_of_map R.one
    have nM : M.Nodup := by
      refine nodup_of_map (f := fun q => Value.ref q.1) (pm.nodup_iff.mpr ?_)
      refine List.pairwise_map.mpr (List.Pairwise.imp_of_mem (fun {q r} hq hr hne e => ?_) nL)
      injection e with e
      exact hne (one q hq r hr e)
    have pM : M.Perm L := (List.perm_ext_iff_of_nodup nM nL).mpr mem
    have hpu : ∀ j ∈ M.map (·.2), pureK j = true := fun j hj => by
      obtain ⟨q, hq, rfl⟩ := List.mem_map.mp hj
      exact (R.key q (hM q hq)).pu
    refine hR s2 _ ((M.map (·.2)).map (·.data)) k1 g1 o1 ⟨nodup_dat hpu ((pM.map (·.2)).nodup_iff.mpr R.one), fun d => ?_, by rw [List.length_map, List.length_map, pM.length_eq]; exact R.few⟩ ?_ ?_
    · rw [List.map_map]
      constructor
      · intro hd'
        obtain ⟨q, hq, rfl⟩ := List.mem_map.mp hd'
        exact List.mem_map.mpr ⟨q, g.sub q (hM q hq), rfl⟩
      · intro hd'
        obtain ⟨q, hq, rfl⟩ := List.mem_map.mp hd'
        obtain ⟨r, hr, e⟩ := List.mem_map.mp (hall q hq)
        exact List.mem_map.mpr ⟨r, (mem r).mpr hr, by show r.2.data = q.2.data; rw [e]⟩
    · have : ∀ M : NL, (∀ q ∈ M, q ∈ L) → EachIs (fun u d => ∃ x, (∃ q ∈ ks, x = V.ref q.1 ∧ d = q.2.data) ∧ RelV x u) (M.map fun q => Value.ref q.1) ((M.map (·.2)).map (·.data)) := by
        intro M
        induction M with
        | nil => intro _; exact .nil
        | cons q M ih => intro hM; exact .cons ⟨.ref q.1, ⟨q, g.sub q (hM q (by simp)), rfl, rfl⟩, rfl⟩ (ih fun r hr => hM r (List.mem_cons_of_mem _ hr))
      exact this M hM
    · have : ∀ M : NL, (∀ q ∈ M, q ∈ L) → Vals (M.map fun q => V.ref q.1) (M.map fun q => Value.ref q.1) ∧ DqAll X.K H1 (M.map fun q => V.ref q.1) ((M.map (·.2)).map (·.data)) := by
        intro M
        induction M with
        | nil => intro _; exact ⟨.nil, .nil⟩
        | cons q M ih =>
          intro hM
          obtain ⟨i1, i2⟩ := ih fun r hr => hM r (List.mem_cons_of_mem _ hr)
          exact ⟨.cons rfl i1, .cons (hk q (g.sub q (hM q (by simp)))).1 i2⟩
      obtain ⟨v1, v2⟩ := this M hM
      exact each_of (K := X.K) I2 v1 v2.dp
  · intro s2 h2 out m ds k1 k2 g1 o1 ⟨e1, e2, e3⟩ hat hout
    obtain ⟨ys, rys, he⟩ := each_back hout
    have hlen : ys.length ≤ sizeLine := by
      have z1 : ys.length = (sortedL ds).length := he.length
      have z2 : (sortedL ds).length = ds.length := (List.mergeSort_perm _ _).length_eq
      rw [z1, z2, sizeLine_eq]
      omega
    have I3 : Inv X pins σ H1 s2 := I2.call' (ch := []) o1 (Un.kept k1) (I2.hok.kept k1) (by rw [g1]; exact I2.bare) (fun _ z => nomatch z)
    exact ⟨.ref s2.heap.objs.size, upd H1 s2.heap.objs.size (.lst ys), I3.laid (t' := s2.toks) k2 (Nat.le_refl _) ⟨hlen, out, m, rys, hat⟩, rfl, q1 ys ds e1 e2 he _ (I3.hok.fresh (Nat.le_refl _))⟩
end
end VS
end
section
set_option Elab.async false
set_option linter.all false
set_option maxRecDepth 100000
set_option autoImplicit false
namespace VS
open PySem PySem.Spec PyProof.Rows L2 PySem.W
/-! ### the sorted list of alike data does not depend on the order -/
theorem toks_inj {x y : PyData} (h : alike x y = true) (e : keyToks x = keyToks y) : PyData.eqv x y = true := by
  cases hq : PyData.eqv x y with
  | true => rfl
  | false =>
    have h1 := (toks_eqv x y h).2 hq [] [Sum.inl 0]
    rw [e, lex_pre, lex_irrefl] at h1
    cases h1
theorem le_tr (a b c : PyData) : dataLe false id a b = true → dataLe false id b c = true → dataLe false id a c = true := by
  simp only [dataLe_eq, cond_false, id, Bool.not_eq_true']
  intro h1 h2
  cases hq : dataLt c a with
  | false => rfl
  | true =>
    rcases lex_negTrans (O := itemOrd) _ (keyToks b) _ hq with z | z
    · rw [show dataLt c b = _ from z] at h2; cases h2
    · rw [show dataLt b a = _ from z] at h1; cases h1
theorem le_tot (a b : PyData) : (dataLe false id a b || dataLe false id b a) = true := by
  simp only [dataLe_eq, cond_false, id]
  cases h1 : dataLt b a with
  | false => rfl
  | true =>
    cases h2 : dataLt a b with
    | false => rfl
    | true =>
      have := lex_trans (O := itemOrd) _ _ _ h1 h2
      rw [lex_irrefl] at this
      cases this
theorem sorted_perm {x y : List PyData} (hp : x.Perm y) (hi : ∀ a ∈ x, ∀ b ∈ x, keyToks a = keyToks b → a = b) : sortedL x = sortedL y := by
  unfold sortedL
  have px := List.mergeSort_perm x (dataLe false id)
  have py := List.mergeSort_perm y (dataLe false id)
  refine List.Perm.eq_of_pairwise (le := fun a b => dataLe false id a b = true) (fun a b ha hb h1 h2 => ?_) (List.pairwise_mergeSort le_tr le_tot x) (List.pairwise_mergeSort le_tr le_tot y) (px.trans (hp.trans py.symm))
  simp only [dataLe_eq, cond_false, id, Bool.not_eq_true'] at h1 h2
  exact hi a (px.mem_iff.mp ha) b (hp.mem_iff.mpr (py.mem_iff.mp hb)) (lex_total (O := itemOrd) _ _ h2 h1)
mutual
theorem eqv_pure : ∀ (j k : NestedKey), pureK j = true → pureK k = true → PyData.eqv j.data k.data = true → j = k
  | .none, .none, _, _, _ => rfl
  | .none, .num _, _, _, h => by simp [NestedKey.data, PyData.eqv] at h
  | .none, .text _, _, h, _ => by cases h
  | .none, .tup _, _, _, h => by simp [NestedKey.data, PyData.eqv] at h
  | .num _, .none, _, _, h => by simp [NestedKey.data, PyData.eqv] at h
  | .num a, .num b, _, _, h => by simp [NestedKey.data, PyData.eqv] at h; rw [h]
  | .num _, .text _, _, h, _ => by cases h
  | .num _, .tup _, _, _, h => by simp [NestedKey.data, PyData.eqv] at h
  | .text _, _, h, _, _ => by cases h
  | .tup _, .none, _, _, h => by simp [NestedKey.data, PyData.eqv] at h
  | .tup _, .num _, _, _, h => by simp [NestedKey.data, PyData.eqv] at h
  | .tup _, .text _, _, h, _ => by cases h
  | .tup a, .tup b, h1, h2, h => by
    rw [NestedKey.data, NestedKey.data, PyData.eqv] at h
    rw [eqvs_pure a b h1 h2 h]
theorem eqvs_pure : ∀ (js ks : List NestedKey), pureKs js = true → pureKs ks = true → PyData.eqvAll (NestedKey.datas js) (NestedKey.datas ks) = true → js = ks
  | [], [], _, _, _ => rfl
  | [], _ :: _, _, _, h => by simp [NestedKey.datas, PyData.eqvAll] at h
  | _ :: _, [], _, _, h => by simp [NestedKey.datas, PyData.eqvAll] at h
  | j :: js, k :: ks, h1, h2, h => by
    rw [pureKs, Bool.and_eq_true] at h1 h2
    rw [NestedKey.datas, NestedKey.datas, PyData.eqvAll, Bool.and_eq_true] at h
    rw [eqv_pure j k h1.1 h2.1 h.1, eqvs_pure js ks h1.2 h2.2 h.2]
end
/-! ### its worth -/
def ddupK : List NestedKey → List NestedKey
  | [] => []
  | x :: xs => if x ∈ xs then ddupK xs else x :: ddupK xs
theorem mem_ddupK {y : NestedKey} : ∀ {xs : List NestedKey}, y ∈ ddupK xs ↔ y ∈ xs
  | [] => Iff.rfl
  | x :: xs => by
    unfold ddupK
    split
    · rename_i h
      rw [mem_ddupK, List.mem_cons]
      exact ⟨.inr, fun z => z.elim (fun e => e ▸ h) id⟩
    · rw [List.mem_cons, List.mem_cons, mem_ddupK]
theorem nodup_ddupK : ∀ xs : List NestedKey, (ddupK xs).Nodup
  | [] => List.nodup_nil
  | x :: xs => by
    unfold ddupK
    split
    · exact nodup_ddupK xs
    · rename_i h
      exact List.nodup_cons.mpr ⟨fun z => h (mem_ddupK.mp z), nodup_ddupK xs⟩
def sortSN : PyData → Option PyData
  | .list xs => (nksOf xs).bind fun ks => if (ddupK ks).length < 64 ∧ (ks.all fun k => decide (k.depth ≤ 8)) = true ∧ sortN xs = true then some (.list (sortedL ((ddupK ks).map (·.data)))) else none
  | _ => none
theorem sn_refs {K : PySem.W.Frag} {F : Hp} : ∀ {ks : List NestedKey} {vs : List V} {xs : List PyData}, NestedKey.datas ks = xs → DqAll K F vs xs → (∀ d ∈ xs, ∃ ds, d = .tuple ds) →
    ∃ ps : NL, vs = ps.map (fun p => V.ref p.1) ∧ ps.map (·.2) = ks ∧ ∀ p ∈ ps, Dq K F (.ref p.1) p.2.data
  | [], _, _, e, h, _ => by
    rw [NestedKey.datas] at e
    subst e
    cases h
    exact ⟨[], rfl, rfl, (fun p hp => nomatch hp)⟩
  | k :: ks, _, _, e, h, ht => by
    rw [NestedKey.datas] at e
    subst e
    cases h with
    | cons h1 h2 =>
      obtain ⟨ps, e1, e2, e3⟩ := sn_refs rfl h2 fun d hd => ht d (List.mem_cons_of_mem _ hd)
      obtain ⟨ds, ed⟩ := ht k.data (by simp)
      rw [ed] at h1
      cases h1 with
      | tup a1 a2 =>
        rename_i a _
        refine ⟨(a, k) :: ps, by rw [e1]; rfl, by rw [← e2]; rfl, fun p hp => ?_⟩
        rcases List.mem_cons.mp hp with rfl | hp
        · show Dq K F (.ref a) k.data
          rw [ed]; exact .tup a1 a2
        · exact e3 p hp
theorem datas_map : ∀ ks : List NestedKey, NestedKey.datas ks = ks.map (·.data)
  | [] => rfl
  | k :: ks => by rw [NestedKey.datas, datas_map ks]; rfl
theorem pureKs_mem : ∀ {ks : List NestedKey}, pureKs ks = true → ∀ k ∈ ks, pureK k = true
  | [], _, k, h => nomatch h
  | j :: ks, hp, k, h => by
    rw [pureKs, Bool.and_eq_true] at hp
    rcases List.mem_cons.mp h with rfl | h
    · exact hp.1
    · exact pureKs_mem hp.2 k h
section
variable {X : Cx} {xc : Nat → Addr} {W : WX} {k : Kd} {e a b c : Expr} {g ga gb gc : Rho → RE PyData} {pos p p1 p2 q2 : Pos}
theorem de_sortSN (hc : X.calm = true) (hu : X.A.units + 65 < cLine) (hg : Gl X "sorted") (hm : X.mg "sorted" = none) (hg2 : Gl X "set") (hm2 : X.mg "set" = none) (h : DE X xc W kE a g)
    (na : starEach [a] X.env = (false, eval a X.env) :: starEach [] X.env := by rfl) (nb : starEach [.Call (.Name "set" p1) [a] [] p2] X.env = (false, eval (.Call (.Name "set" p1) [a] [] p2) X.env) :: starEach [] X.env := by rfl) :
    DE X xc W kN (.Call (.Name "sorted" p) [.Call (.Name "set" p1) [a] [] p2] [] pos) (dUn sortSN g) := PE.imp (pe_sortSN hc hu hg hm hg2 hm2 h na nb) fun σ H Q ⟨F0, H0, ρ, F, r, hb, hq, hx⟩ => by
  refine eC.go r hb hx fun d ed v F1 H1 x1 r1 k1 hb1 hx1 => ?_
  obtain ⟨z, ez⟩ := R.of_ne_bad hb1
  have eq : dUn sortSN g ρ = .ok z := by show (g ρ).bind _ = _; rw [ed, R.bind_ok, ez]; rfl
  unfold sortSN at ez
  split at ez
  · rename_i xs
    obtain ⟨ks, hks, ez⟩ := Option.bind_eq_some_iff.mp ez
    split at ez
    · rename_i hcond
      obtain ⟨c1, c2, c3⟩ := hcond
      cases ez
      obtain ⟨edat, hpu⟩ := nksOf_data _ _ hks
      have hpm := pureKs_mem hpu
      obtain ⟨l, vs, rfl, h1, h2⟩ := k1.lst r1.same
      have htup : ∀ d ∈ xs, ∃ ds, d = PyData.tuple ds := fun d hd => by
        have c4 := c3
        simp only [sortN, Bool.and_eq_true, List.all_eq_true] at c4
        have := c4.2 d hd
        split at this
        · exact ⟨_, rfl⟩
        · cases this
      obtain ⟨ps, rfl, rfl, h3⟩ := sn_refs edat h2 htup
      have em : ps.map (·.2.data) = xs := by
        rw [← edat, datas_map, List.map_map]; rfl
      refine ⟨l, ps, rfl, h1, fun p hp => ⟨dp_mono r1.same (h3 p hp), ?_, ?_⟩, ⟨ddupK (ps.map (·.2)), c1, fun p hp => mem_ddupK.mpr (List.mem_map_of_mem hp)⟩, by rw [em]; exact c3, fun ys ds hnd hmem he p hp => ?_⟩
      · exact of_decide_eq_true (List.all_eq_true.mp c2 p.2 (List.mem_map_of_mem hp))
      · exact hpm p.2 (List.mem_map_of_mem hp)
      · have hal : ∀ x ∈ xs, ∀ y ∈ xs, alike x y = true := by
          simp only [sortN, Bool.and_eq_true, List.all_eq_true] at c3
          exact c3.1.1
        have hdd : ∀ j ∈ ddupK (ps.map (·.2)), pureK j = true := fun j hj => hpm j (mem_ddupK.mp hj)
        have hperm : ds.Perm ((ddupK (ps.map (·.2))).map (·.data)) := by
          refine (List.perm_ext_iff_of_nodup hnd (nodup_dat hdd (nodup_ddupK _))).mpr fun d => ?_
          rw [hmem]
          constructor
          · intro hd
            obtain ⟨q, hq, rfl⟩ := List.mem_map.mp hd
            exact List.mem_map.mpr ⟨q.2, mem_ddupK.mpr (List.mem_map_of_mem hq), rfl⟩
          · intro hd
            obtain ⟨j, hj, rfl⟩ := List.mem_map.mp hd
            obtain ⟨q, hq, rfl⟩ := List.mem_map.mp (mem_ddupK.mp hj)
            exact List.mem_map.mpr ⟨q, hq, rfl⟩
        have es := sorted_perm hperm (fun x hx y hy e => by
          have hx := (hmem x).mp hx
          have hy := (hmem y).mp hy
          have ha := hal x (by rw [← em]; exact hx) y (by rw [← em]; exact hy)
          obtain ⟨q, hq, rfl⟩ := List.mem_map.mp hx
          obtain ⟨q', hq', rfl⟩ := List.mem_map.mp hy
          rw [eqv_pure q.2 q'.2 (hpm q.2 (List.mem_map_of_mem hq)) (hpm q'.2 (List.mem_map_of_mem hq')) (toks_inj ha e)])
        refine hq _ eq _ F1 _ (x1.trans (.own r1.same hp)) ⟨p, ys, _, rfl, rfl, x1.hh.free hp, r1.same.free hp, upd_same, ?_⟩
        rw [← es]
        have : ∀ {ys : List V} {es : List PyData}, EachIs (fun y d => ∃ q ∈ ps, y = V.ref q.1 ∧ d = q.2.data) ys es → DqAll X.K F1 ys es := by
          intro ys es he
          induction he with
          | nil => exact .nil
          | cons h t ih =>
            obtain ⟨q, hq, rfl, rfl⟩ := h
            exact .cons (h3 q hq) ih
        exact this he
    · cases ez
  · cases ez
end
end VS
end
section
set_option Elab.async false
set_option linter.all false
set_option maxRecDepth 100000
set_option maxHeartbeats 4000000
namespace Dl
open PySem L2 VS
def topS (i : Nat) : Stmt := PySem.Challenge.pw_deadendlanes_k10_whole_roads.main.body.getD i (.Pass ⟨0, 0, 0, 0⟩)
/-! ### _law_in_way -/
abbrev s__law_in_way : Stmt := topS 23
abbrev N__law_in_way : List Str := ["order", "car", "later"]
theorem sc__law_in_way : FnScope N__law_in_way ["order", "car", "later"] (defScope s__law_in_way) := ⟨rfl, rfl, rfl, by decide +kernel, rfl, by decide +kernel, by decide +kernel⟩
def G__law_in_way : Rho → RS := (dRet (dAndV (dBin ltD (dVar 1) (dVar 2)) (dBin ltD (dIndexU (dVar 0) (dVar 1)) (dIndexU (dVar 0) (dVar 2)))))
def D__law_in_way : List PyData → RE PyData := fnD 3 [true, true, true] G__law_in_way
/-! ### _law_free -/
abbrev s__law_free : Stmt := topS 24
abbrev N__law_free : List Str := ["order", "lane", "car", "later"]
theorem sc__law_free : FnScope N__law_free ["order", "lane"] (defScope s__law_free) := ⟨rfl, rfl, rfl, by decide +kernel, rfl, by decide +kernel, by decide +kernel⟩
def G__law_free : Rho → RS := (dThen (dFor (dTg1 2) (dSeq (dVarF 1)) (dIfS (dTest (dBin neD (dLc [3] (dTg1 3) (dSeq (dVar 1)) (dTru (dCall D__law_in_way (dCons (dVarF 0) (dCons (dVarF 2) (dCons (dVarF 3) dNil))))) (dVarF 3)) (dLst dNil))) (dRet (dC (.bool false))) dNx))
  (dRet (dC (.bool true))))
def D__law_free : List PyData → RE PyData := fnD 4 [true, true] G__law_free
/-! ### _law_moved -/
abbrev s__law_moved : Stmt := topS 26
abbrev N__law_moved : List Str := ["order", "lanes_here", "found", "at", "car", "goal", "more", "rows", "spot", "one"]
theorem sc__law_moved : FnScope N__law_moved ["order", "lanes_here"] (defScope s__law_moved) := ⟨rfl, rfl, rfl, by decide +kernel, rfl, by decide +kernel, by decide +kernel⟩
def G__law_moved : Rho → RS := (dThen (dSetN 2 (dLst dNil))
  (dThen (dFor (dTg1 3) (dRng1 (dUn lenD (dVar 1))) (dFor (dTg1 4) (dSeq (dBin idxD (dVar 1) (dVar 3))) (dFor (dTg1 5) (dRng1 (dUn lenD (dVar 1))) (dThen (dSet 6 (dUn tupleD (dUn sortD (dBin addD (dBin idxD (dVar 1) (dVar 5)) (dTup (dCons (dVarF 4) dNil))))))
  (dIfS (dAnd (dTest (dBin neD (dVar 5) (dVar 3))) (dAnd (dTest (dBin gtD (dUn lenD (dBin idxD (dVar 1) (dVar 3))) (dC (.int 1)))) (dTru (dCall D__law_free (dCons (dVarF 0) (dCons (dVarF 6) dNil)))))) (dThen (dSetN 7 (dLc [8] (dTg1 8) (dRng1 (dUn lenD (dVar 1))) (dTest (dBin notInD (dVar 8) (dTup (dCons (dVarF 3) (dCons (dVarF 5) dNil))))) (dBin idxD (dVar 1) (dVar 8))))
  (dThen (dApp 7 (dUn tupleD (dLc [9] (dTg1 9) (dSeq (dBin idxD (dVar 1) (dVar 3))) (dTest (dBin neD (dVar 9) (dVar 4))) (dVarF 9))))
  (dApp 2 (dUn tupleD (dUn sortD (dBin addD (dVar 7) (dLst (dCons (dVarF 6) dNil)))))))) dNx)))))
  (dRet (dUn sortSN (dVar 2)))))
def D__law_moved : List PyData → RE PyData := fnD 10 [true, true] G__law_moved
/-! ### blocks -/
abbrev s_blocks : Stmt := topS 10
abbrev N_blocks : List Str := ["order", "car", "later"]
theorem sc_blocks : FnScope N_blocks ["order", "car", "later"] (defScope s_blocks) := ⟨rfl, rfl, rfl, by decide +kernel, rfl, by decide +kernel, by decide +kernel⟩
def G_blocks : Rho → RS := (dRet (dAndV (dBin ltD (dVar 1) (dVar 2)) (dBin ltD (dIndexU (dVar 0) (dVar 1)) (dIndexU (dVar 0) (dVar 2)))))
def D_blocks : List PyData → RE PyData := fnD 3 [true, true, true] G_blocks
/-! ### is_free_of -/
abbrev s_is_free_of : Stmt := topS 12
abbrev N_is_free_of : List Str := ["order", "some", "place", "car", "later"]
theorem sc_is_free_of : FnScope N_is_free_of ["order", "some"] (defScope s_is_free_of) := ⟨rfl, rfl, rfl, by decide +kernel, rfl, by decide +kernel, by decide +kernel⟩
def G_is_free_of : Rho → RS := (dThen (dFor (dTgN [2, 3]) (dEnum (dVarF 1)) (dIfS (dTru (dLc [4] (dTg1 4) (dSeq (dSl sliceD (dVar 1) (dP (dBin addD (dVar 2) (dC (.int 1)))) dNoP)) (dTru (dCall D_blocks (dCons (dVarF 0) (dCons (dVarF 3) (dCons (dVarF 4) dNil))))) (dVarF 4))) (dRet (dC (.bool false))) dNx))
  (dRet (dC (.bool true))))
def D_is_free_of : List PyData → RE PyData := fnD 5 [true, true] G_is_free_of
/-! ### sorted_lanes -/
abbrev s_sorted_lanes : Stmt := topS 14
abbrev N_sorted_lanes : List Str := ["lanes", "lane"]
theorem sc_sorted_lanes : FnScope N_sorted_lanes ["lanes"] (defScope s_sorted_lanes) := ⟨rfl, rfl, rfl, by decide +kernel, rfl, by decide +kernel, by decide +kernel⟩
def G_sorted_lanes : Rho → RS := (dRet (dUn tupleD (dUn sortD (dLc [1] (dTg1 1) (dSeq (dVar 0)) (dTru (dVar 1)) (dUn tupleD (dUn sortD (dVar 1)))))))
def D_sorted_lanes : List PyData → RE PyData := fnD 2 [true] G_sorted_lanes
/-! ### near_of -/
abbrev s_near_of : Stmt := topS 15
abbrev N_near_of : List Str := ["order", "lanes", "found", "place", "lane", "car", "rest", "goal", "other", "more", "rows", "one"]
theorem sc_near_of : FnScope N_near_of ["order", "lanes"] (defScope s_near_of) := ⟨rfl, rfl, rfl, by decide +kernel, rfl, by decide +kernel, by decide +kernel⟩
def G_near_of : Rho → RS := (dThen (dNewDn 2)
  (dThen (dFor (dTgN [3, 4]) (dEnum (dVarF 1)) (dFor (dTg1 5) (dSeq (dVarF 4)) (dThen (dSet 6 (dUn tupleD (dLc [11] (dTg1 11) (dSeq (dVar 4)) (dTest (dBin neD (dVar 11) (dVar 5))) (dVarF 11))))
  (dFor (dTgN [7, 8]) (dEnum (dVarF 1)) (dThen (dSet 9 (dUn sortD (dBin addD (dVar 8) (dTup (dCons (dVarF 5) dNil)))))
  (dIfS (dAnd (dTest (dBin neD (dVar 7) (dVar 3))) (dAnd (dTru (dVar 6)) (dTru (dCall D_is_free_of (dCons (dVarF 0) (dCons (dVarF 9) dNil)))))) (dThen (dSetN 10 (dUn listD (dVar 1)))
  (dThen (dSetIx 10 (dVar 3) (dVarF 6))
  (dThen (dSetIx 10 (dVar 7) (dUn tupleD (dVar 9)))
  (dFrz 10 (dDnPut 2 (dCall D_sorted_lanes (dCons (dVarF 10) dNil)) (dC (.bool true))))))) dNx))))))
  (dRet (dSortDn 2))))
def D_near_of : List PyData → RE PyData := fnD 12 [true, true] G_near_of
/-! ### in_range -/
abbrev s_in_range : Stmt := topS 7
abbrev N_in_range : List Str := ["value", "low", "high"]
theorem sc_in_range : FnScope N_in_range ["value", "low", "high"] (defScope s_in_range) := ⟨rfl, rfl, rfl, by decide +kernel, rfl, by decide +kernel, by decide +kernel⟩
def G_in_range : Rho → RS := (dRet (dAndV (dUn (isiD "int") (dVar 0)) (dAndV (dNotV (dUn (isiD "bool") (dVar 0))) (dChain leD leD (dVar 1) (dVar 0) (dVar 2)))))
def D_in_range : List PyData → RE PyData := fnD 3 [true, true, true] G_in_range
/-! ### are_lanes_of -/
abbrev s_are_lanes_of : Stmt := topS 13
abbrev N_are_lanes_of : List Str := ["order", "value", "cars", "lane", "firsts", "car"]
theorem sc_are_lanes_of : FnScope N_are_lanes_of ["order", "value"] (defScope s_are_lanes_of) := ⟨rfl, rfl, rfl, by decide +kernel, rfl, by decide +kernel, by decide +kernel⟩
def G_are_lanes_of : Rho → RS := (dThen (dIfS (dOr (dNot (dTru (dUn (isiD "tuple") (dVar 1)))) (dTru (dLc [3] (dTg1 3) (dSeq (dVar 1)) (dOr (dNot (dTru (dUn (isiD "tuple") (dVar 3)))) (dNot (dTru (dVar 3)))) (dVarF 3)))) (dRet (dC (.bool false))) dNx)
  (dThen (dSetN 2 (dLst dNil))
  (dThen (dFor (dTg1 3) (dSeq (dVarF 1)) (dExt 2 (dVar 3)))
  (dThen (dIfS (dTru (dLc [5] (dTg1 5) (dSeq (dVar 2)) (dNot (dTru (dCall D_in_range (dCons (dVarF 5) (dCons (dC (.int 0)) (dCons (dBin subD (dUn lenD (dVar 0)) (dC (.int 1))) dNil)))))) (dVarF 5))) (dRet (dC (.bool false))) dNx)
  (dThen (dIfS (dOr (dTest (dBin neD (dUn sortD (dVar 2)) (dUn listRg (dUn lenD (dVar 0))))) (dTru (dLc [3] (dTg1 3) (dSeq (dVar 1)) (dTest (dBin neD (dUn listD (dVar 3)) (dUn sortD (dVar 3)))) (dVarF 3)))) (dRet (dC (.bool false))) dNx)
  (dThen (dSet 4 (dLc [3] (dTg1 3) (dSeq (dVar 1)) dYes (dBin idxD (dVar 3) (dC (.int 0)))))
  (dRet (dAndV (dBin eqD (dVar 4) (dUn sortD (dVar 4))) (dNotV (dLc [3] (dTg1 3) (dSeq (dVar 1)) (dNot (dTru (dCall D_is_free_of (dCons (dVarF 0) (dCons (dVarF 3) dNil))))) (dVarF 3)))))))))))
def D_are_lanes_of : List PyData → RE PyData := fnD 6 [true, true] G_are_lanes_of
/-! ### is_order -/
abbrev s_is_order : Stmt := topS 8
abbrev N_is_order : List Str := ["value", "car"]
theorem sc_is_order : FnScope N_is_order ["value"] (defScope s_is_order) := ⟨rfl, rfl, rfl, by decide +kernel, rfl, by decide +kernel, by decide +kernel⟩
def G_is_order : Rho → RS := (dThen (dIfS (dOr (dNot (dTru (dUn (isiD "tuple") (dVar 0)))) (dNot (dTest (dChain leD leD (dC (.int 1)) (dUn lenD (dVar 0)) (dC (.int 7)))))) (dRet (dC (.bool false))) dNx)
  (dThen (dIfS (dTru (dLc [1] (dTg1 1) (dSeq (dVar 0)) (dNot (dTru (dCall D_in_range (dCons (dVarF 1) (dCons (dC (.int 0)) (dCons (dBin subD (dUn lenD (dVar 0)) (dC (.int 1))) dNil)))))) (dVarF 1))) (dRet (dC (.bool false))) dNx)
  (dRet (dBin eqD (dUn lenSetD (dVar 0)) (dUn lenD (dVar 0))))))
def D_is_order : List PyData → RE PyData := fnD 2 [true] G_is_order
/-! ### check_order -/
abbrev s_check_order : Stmt := topS 9
abbrev N_check_order : List Str := ["order"]
theorem sc_check_order : FnScope N_check_order ["order"] (defScope s_check_order) := ⟨rfl, rfl, rfl, by decide +kernel, rfl, by decide +kernel, by decide +kernel⟩
def G_check_order : Rho → RS := (dIfS (dNot (dTru (dCall D_is_order (dCons (dVarF 0) dNil)))) (dRaise 2) dNx)
def D_check_order : List PyData → RE PyData := fnD 1 [true] G_check_order
/-! ### check_lanes -/
abbrev s_check_lanes : Stmt := topS 16
abbrev N_check_lanes : List Str := ["order", "lanes"]
theorem sc_check_lanes : FnScope N_check_lanes ["order", "lanes"] (defScope s_check_lanes) := ⟨rfl, rfl, rfl, by decide +kernel, rfl, by decide +kernel, by decide +kernel⟩
def G_check_lanes : Rho → RS := (dThen (dExp (dCall D_check_order (dCons (dVarF 0) dNil)))
  (dIfS (dNot (dTru (dCall D_are_lanes_of (dCons (dVarF 0) (dCons (dVarF 1) dNil))))) (dRaise 5) dNx))
def D_check_lanes : List PyData → RE PyData := fnD 2 [true, true] G_check_lanes
/-! ### road -/
abbrev s_road : Stmt := topS 18
abbrev N_road : List Str := ["order", "one", "other", "before", "queue", "here", "more", "result"]
theorem sc_road : FnScope N_road ["order", "one", "other"] (defScope s_road) := ⟨rfl, rfl, rfl, by decide +kernel, rfl, by decide +kernel, by decide +kernel⟩
def G_road : Rho → RS := (dThen (dExp (dCall D_check_lanes (dCons (dVarF 0) (dCons (dVarF 1) dNil))))
  (dThen (dExp (dCall D_check_lanes (dCons (dVarF 0) (dCons (dVarF 2) dNil))))
  (dThen (dNewDn1 3 (dVar 1) (dC .none))
  (dThen (dSetN 4 (dLst (dCons (dVarF 1) dNil)))
  (dThen (whileD (dAnd (dTru (dVar 4)) (dTest (dDnIn 3 true (dVar 2)))) (dThen (dSetPop 5 4 (dC (.int 0)))
  (dFor (dTg1 6) (dSeq (dCall D_near_of (dCons (dVarF 0) (dCons (dVarF 5) dNil)))) (dIfS (dTest (dDnIn 3 true (dVar 6))) (dThen (dDnPut 3 (dVar 6) (dVarF 5))
  (dApp 4 (dVarF 6))) dNx))) 100)
  (dThen (dIfS (dTest (dDnIn 3 true (dVar 2))) (dRaise 7) dNx)
  (dThen (dSetN 7 (dLst (dCons (dVarF 2) dNil)))
  (dThen (whileD (dTest (dUn notND (dDnGet 3 (dBin idxD (dVar 7) (dUn negD (dC (.int 1))))))) (dApp 7 (dDnGet 3 (dBin idxD (dVar 7) (dUn negD (dC (.int 1)))))) 100)
  (dRet (dUn revL (dVar 7)))))))))))
def D_road : List PyData → RE PyData := fnD 8 [true, true, true] G_road
/-! ### near -/
abbrev s_near : Stmt := topS 17
abbrev N_near : List Str := ["order", "lanes"]
theorem sc_near : FnScope N_near ["order", "lanes"] (defScope s_near) := ⟨rfl, rfl, rfl, by decide +kernel, rfl, by decide +kernel, by decide +kernel⟩
def G_near : Rho → RS := (dThen (dExp (dCall D_check_lanes (dCons (dVarF 0) (dCons (dVarF 1) dNil))))
  (dRet (dCall D_near_of (dCons (dVarF 0) (dCons (dVarF 1) dNil)))))
def D_near : List PyData → RE PyData := fnD 2 [true, true] G_near
/-! ### _law_led -/
abbrev s__law_led : Stmt := topS 27
abbrev N__law_led : List Str := ["mode", "order", "one", "other", "e"]
theorem sc__law_led : FnScope N__law_led ["mode", "order", "one", "other"] (defScope s__law_led) := ⟨rfl, rfl, rfl, by decide +kernel, rfl, by decide +kernel, by decide +kernel⟩
theorem steady__law_led_0 : Steady 4 (fun a dd y => (dRet (dIf (dAnd (dTru (dIsE 4 a dd y (subB y.cls 0))) (dNot (dTru (dIsE 4 a dd y (subB y.cls 5))))) (dC (.str "no")) (dC (.str "other"))))) := steady_ret fun a dd y ρ => by
  simp only [lineY_eval, dIf, dAnd, dOr, dNot, dTru, dAndV, dNotV, dTest, dC, isE_eval, line_eval, dLst, dCons, dNil, dBin, dUn, dVar, dVarF]
theorem steady__law_led_1 : Steady 4 (fun a dd y => (dRet (dIf (dAnd (dTru (dIsE 4 a dd y (subB y.cls 0))) (dNot (dTru (dIsE 4 a dd y (subB y.cls 7))))) (dC (.str "lanes")) (dC (.str "other"))))) := steady_ret fun a dd y ρ => by
  simp only [lineY_eval, dIf, dAnd, dOr, dNot, dTru, dAndV, dNotV, dTest, dC, isE_eval, line_eval, dLst, dCons, dNil, dBin, dUn, dVar, dVarF]
def G__law_led : Rho → RS := (dTryM (dRet (dIf (dTest (dBin eqD (dVar 0) (dC (.int 0)))) (dCall D_road (dCons (dVarF 1) (dCons (dVarF 2) (dCons (dVarF 3) dNil)))) (dCall D_near (dCons (dVarF 1) (dCons (dVarF 2) dNil))))) 4 [(mX [2, 5, 7] 7, fun a dd y => (dRet (dIf (dAnd (dTru (dIsE 4 a dd y (subB y.cls 0))) (dNot (dTru (dIsE 4 a dd y (subB y.cls 5))))) (dC (.str "no")) (dC (.str "other"))))), (mX [2, 5, 7] 5, fun a dd y => (dRet (dIf (dAnd (dTru (dIsE 4 a dd y (subB y.cls 0))) (dNot (dTru (dIsE 4 a dd y (subB y.cls 7))))) (dC (.str "lanes")) (dC (.str "other")))))])
def D__law_led : List PyData → RE PyData := fnD 5 [true, true, true, true] G__law_led
/-! ### _law_arranged -/
abbrev s__law_arranged : Stmt := topS 25
abbrev N__law_arranged : List Str := ["order", "lanes_here", "car", "found", "at", "lane"]
theorem sc__law_arranged : FnScope N__law_arranged ["order", "lanes_here", "car"] (defScope s__law_arranged) := ⟨rfl, rfl, rfl, by decide +kernel, rfl, by decide +kernel, by decide +kernel⟩
def GR__law_arranged (rec : List PyData → RE PyData) : Rho → RS := (dThen (dIfS (dTest (dBin eqD (dVar 2) (dUn lenD (dVar 0)))) (dRet (dLst (dCons (dVarF 1) dNil))) dNx)
  (dThen (dSet 3 (dCall rec (dCons (dVarF 0) (dCons (dBin addD (dVar 1) (dTup (dCons (dTup (dCons (dVarF 2) dNil)) dNil))) (dCons (dBin addD (dVar 2) (dC (.int 1))) dNil)))))
  (dThen (dFor (dTg1 4) (dRng1 (dUn lenD (dVar 1))) (dThen (dSet 5 (dBin addD (dBin idxD (dVar 1) (dVar 4)) (dTup (dCons (dVarF 2) dNil))))
  (dIfS (dTru (dCall D__law_free (dCons (dVarF 0) (dCons (dVarF 5) dNil)))) (dSet 3 (dBin addD (dVar 3) (dCall rec (dCons (dVarF 0) (dCons (dBin addD (dBin addD (dSl sliceD (dVar 1) dNoP (dP (dVar 4))) (dTup (dCons (dVarF 5) dNil))) (dSl sliceD (dVar 1) (dP (dBin addD (dVar 4) (dC (.int 1)))) dNoP)) (dCons (dBin addD (dVar 2) (dC (.int 1))) dNil)))))) dNx)))
  (dRet (dVarF 3)))))
def DR__law_arranged : Nat → List PyData → RE PyData
  | 0 => fun _ => .bad
  | d + 1 => fnD 6 [true, true, true] (GR__law_arranged (DR__law_arranged d))
def D__law_arranged : List PyData → RE PyData := DR__law_arranged 8
/-! ### _law_cell -/
abbrev s__law_cell : Stmt := topS 20
abbrev N__law_cell : List Str := ["script", "k"]
theorem sc__law_cell : FnScope N__law_cell ["script", "k"] (defScope s__law_cell) := ⟨rfl, rfl, rfl, by decide +kernel, rfl, by decide +kernel, by decide +kernel⟩
def G__law_cell : Rho → RS := (dThen (dIfS (dTest (dBin ltD (dVar 1) (dUn lenD (dVar 0)))) (dRet (dBin idxD (dVar 0) (dVar 1))) dNx)
  (dRet (dC (.int 0))))
def D__law_cell : List PyData → RE PyData := fnD 2 [true, true] G__law_cell
/-! ### _law_row -/
abbrev s__law_row : Stmt := topS 21
abbrev N__law_row : List Str := ["script", "at", "cell", "found", "time"]
theorem sc__law_row : FnScope N__law_row ["script", "at"] (defScope s__law_row) := ⟨rfl, rfl, rfl, by decide +kernel, rfl, by decide +kernel, by decide +kernel⟩
def G__law_row : Rho → RS := (dThen (dSet 2 (dCall D__law_cell (dCons (dVarF 0) (dCons (dVarF 1) dNil))))
  (dThen (dSetN 3 (dLst dNil))
  (dThen (dFor (dTg1 4) (dRng1 (dC (.int 60))) (dIfS (dTest (dBin ltD (dCall D__law_cell (dCons (dVarF 0) (dCons (dVarF 1) dNil))) (dBin powD (dC (.int 10)) (dC (.int 18))))) (dThen (dSet 2 (dBin modD (dBin addD (dBin addD (dBin addD (dBin mulI (dVar 2) (dC (.int 48271))) (dBin mulI (dC (.int 131)) (dVar 4))) (dC (.int 7))) (dCall D__law_cell (dCons (dVarF 0) (dCons (dBin modD (dBin addD (dBin addD (dVar 1) (dC (.int 1))) (dVar 4)) (dC (.int 20))) dNil)))) (dC (.int 2147483647))))
  (dApp 3 (dBin modD (dBin fdivD (dVar 2) (dC (.int 11))) (dC (.int 1000))))) (dThen (dApp 3 (dBin modD (dVar 2) (dC (.int 1000))))
  (dSet 2 (dBin fdivD (dVar 2) (dC (.int 1000)))))))
  (dRetV 3))))
def D__law_row : List PyData → RE PyData := fnD 5 [true, true] G__law_row
/-! ### _law_order -/
abbrev s__law_order : Stmt := topS 22
abbrev N__law_order : List Str := ["script", "at", "most", "draws", "left", "found", "spot"]
theorem sc__law_order : FnScope N__law_order ["script", "at", "most"] (defScope s__law_order) := ⟨rfl, rfl, rfl, by decide +kernel, rfl, by decide +kernel, by decide +kernel⟩
def G__law_order : Rho → RS := (dThen (dSet 3 (dCall D__law_row (dCons (dVarF 0) (dCons (dVarF 1) dNil))))
  (dThen (dParN 4 5 (dUn listRg (dBin addD (dC (.int 1)) (dBin modD (dBin idxD (dVar 3) (dC (.int 0))) (dVar 2)))) (dLst dNil))
  (dThen (whileD (dTest (dBin neD (dVar 4) (dLst dNil))) (dThen (dSet 6 (dBin modD (dBin idxD (dVar 3) (dBin addD (dC (.int 1)) (dUn lenD (dVar 4)))) (dUn lenD (dVar 4))))
  (dThen (dIfS (dTest (dBin eqD (dBin modD (dBin idxD (dVar 3) (dC (.int 20))) (dC (.int 3))) (dC (.int 0)))) (dSet 6 (dBin modD (dBin idxD (dVar 3) (dBin addD (dC (.int 1)) (dUn lenD (dVar 4)))) (dBin min2D (dC (.int 2)) (dUn lenD (dVar 4))))) (dIfS (dTest (dBin eqD (dBin modD (dBin idxD (dVar 3) (dC (.int 20))) (dC (.int 3))) (dC (.int 1)))) (dSet 6 (dBin subD (dBin subD (dUn lenD (dVar 4)) (dC (.int 1))) (dBin modD (dBin idxD (dVar 3) (dBin addD (dC (.int 1)) (dUn lenD (dVar 4)))) (dBin min2D (dC (.int 2)) (dUn lenD (dVar 4)))))) dNx))
  (dAppPop 5 4 (dVar 6)))) 100)
  (dRet (dUn tupleD (dVar 5))))))
def D__law_order : List PyData → RE PyData := fnD 7 [true, true, true] G__law_order
/-! ### law -/
abbrev s_law : Stmt := topS 28
abbrev N_law : List Str := ["script", "draws", "order", "every", "one", "same", "other", "found", "wrong", "level", "seen", "many", "later", "some", "more", "at"]
theorem sc_law : FnScope N_law ["script"] (defScope s_law) := ⟨rfl, rfl, rfl, by decide +kernel, rfl, by decide +kernel, by decide +kernel⟩
def G_law : Rho → RS := (dThen (dSet 1 (dCall D__law_row (dCons (dVarF 0) (dCons (dC (.int 4)) dNil))))
  (dThen (dSet 2 (dCall D__law_order (dCons (dVarF 0) (dCons (dC (.int 2)) (dCons (dC (.int 5)) dNil)))))
  (dThen (dSet 3 (dCall D__law_arranged (dCons (dVarF 2) (dCons (dTup dNil) (dCons (dC (.int 0)) dNil)))))
  (dThen (dSet 4 (dBin idxD (dVar 3) (dBin modD (dBin mulI (dBin idxD (dVar 1) (dC (.int 0))) (dC (.int 7))) (dUn lenD (dVar 3)))))
  (dThen (dSet 5 (dLc [13] (dTg1 13) (dSeq (dVar 3)) (dTest (dBin eqD (dUn lenD (dVar 13)) (dUn lenD (dVar 4)))) (dVarF 13)))
  (dThen (dSet 6 (dIf (dTest (dBin gtD (dBin modD (dBin idxD (dVar 1) (dC (.int 2))) (dC (.int 5))) (dC (.int 0)))) (dBin idxD (dVar 5) (dBin modD (dBin mulI (dBin idxD (dVar 1) (dC (.int 1))) (dC (.int 5))) (dUn lenD (dVar 5)))) (dBin idxD (dVar 3) (dBin modD (dBin mulI (dBin idxD (dVar 1) (dC (.int 1))) (dC (.int 5))) (dUn lenD (dVar 3))))))
  (dThen (dSet 7 (dCall D__law_led (dCons (dC (.int 0)) (dCons (dVarF 2) (dCons (dVarF 4) (dCons (dVarF 6) dNil))))))
  (dThen (dSet 8 (dBin idxD (dLst (dCons (dC .none) (dCons (dUn listD (dVar 6)) (dCons (dSl sliceD (dVar 6) (dP (dC (.int 1))) dNoP) (dCons (dTup (dCons (dTup dNil) dNil)) dNil))))) (dBin modD (dBin idxD (dVar 1) (dC (.int 3))) (dC (.int 4)))))
  (dThen (dIfS (dOr (dTest (dBin neD (dCall D__law_led (dCons (dC (.int 0)) (dCons (dVarF 2) (dCons (dVarF 4) (dCons (dVarF 8) dNil))))) (dC (.str "lanes")))) (dTest (dBin neD (dCall D__law_led (dCons (dC (.int 0)) (dCons (dVarF 2) (dCons (dVarF 8) (dCons (dVarF 6) dNil))))) (dC (.str "lanes"))))) (dRet (dC (.bool false))) dNx)
  (dThen (dAsgT (dTgN [9, 10, 11]) (dTup (dCons (dLst (dCons (dVarF 4) dNil)) (dCons (dLst (dCons (dVarF 4) dNil)) (dCons (dC (.int 0)) dNil)))))
  (dThen (whileD (dAnd (dTest (dBin neD (dVar 9) (dLst dNil))) (dTest (dBin notInD (dVar 6) (dVar 9)))) (dThen (dSet 12 (dLst dNil))
  (dThen (dFor (dTg1 13) (dSeq (dVarF 9)) (dSet 12 (dBin addD (dVar 12) (dLc [14] (dTg1 14) (dSeq (dCall D__law_moved (dCons (dVarF 2) (dCons (dVarF 13) dNil)))) (dTest (dBin notInD (dVar 14) (dVar 10))) (dVarF 14)))))
  (dThen (dSet 9 (dUn sortSN (dVar 12)))
  (dThen (dSet 10 (dBin addD (dVar 10) (dVar 9)))
  (dSet 11 (dBin addD (dVar 11) (dC (.int 1)))))))) 100)
  (dThen (dIfS (dTest (dBin eqD (dVar 9) (dLst dNil))) (dRet (dBin eqD (dVar 7) (dC (.str "no")))) dNx)
  (dThen (dIfS (dOr (dTest (dBin neD (dBin idxD (dVar 7) (dC (.int 0))) (dVar 4))) (dOr (dTest (dBin neD (dBin idxD (dVar 7) (dUn negD (dC (.int 1)))) (dVar 6))) (dTest (dBin neD (dUn lenD (dVar 7)) (dBin addD (dVar 11) (dC (.int 1))))))) (dRet (dC (.bool false))) dNx)
  (dRet (dBin eqD (dLc [15] (dTg1 15) (dRng2 (dC (.int 1)) (dUn lenD (dVar 7))) (dTest (dBin notInD (dBin idxD (dVar 7) (dVar 15)) (dCall D__law_moved (dCons (dVarF 2) (dCons (dBin idxD (dVar 7) (dBin subD (dVar 15) (dC (.int 1)))) dNil))))) (dVarF 15)) (dLst dNil))))))))))))))))
def D_law : List PyData → RE PyData := fnD 16 [true] G_law
structure Txt (K : PySem.W.Frag) (mg : Str → Option Value) (xc fa : Nat → Addr) (fd : Nat → FuncData) : Prop where
  f23 : FnT K mg "_law_in_way" "_law_in_way" s__law_in_way (fa 23) (fd 23) ["order", "car", "later"]
  f24 : FnT K mg "_law_free" "_law_free" s__law_free (fa 24) (fd 24) ["order", "lane"]
  f26 : FnT K mg "_law_moved" "_law_moved" s__law_moved (fa 26) (fd 26) ["order", "lanes_here"]
  f10 : FnT K mg "blocks" "blocks" s_blocks (fa 10) (fd 10) ["order", "car", "later"]
  f12 : FnT K mg "is_free_of" "is_free_of" s_is_free_of (fa 12) (fd 12) ["order", "some"]
  f14 : FnT K mg "sorted_lanes" "sorted_lanes" s_sorted_lanes (fa 14) (fd 14) ["lanes"]
  f15 : FnT K mg "near_of" "near_of" s_near_of (fa 15) (fd 15) ["order", "lanes"]
  f7 : FnT K mg "in_range" "in_range" s_in_range (fa 7) (fd 7) ["value", "low", "high"]
  f13 : FnT K mg "are_lanes_of" "are_lanes_of" s_are_lanes_of (fa 13) (fd 13) ["order", "value"]
  f8 : FnT K mg "is_order" "is_order" s_is_order (fa 8) (fd 8) ["value"]
  f9 : FnT K mg "check_order" "check_order" s_check_order (fa 9) (fd 9) ["order"]
  f16 : FnT K mg "check_lanes" "check_lanes" s_check_lanes (fa 16) (fd 16) ["order", "lanes"]
  f18 : FnT K mg "road" "road" s_road (fa 18) (fd 18) ["order", "one", "other"]
  f17 : FnT K mg "near" "near" s_near (fa 17) (fd 17) ["order", "lanes"]
  f27 : FnT K mg "_law_led" "_law_led" s__law_led (fa 27) (fd 27) ["mode", "order", "one", "other"]
  f25 : FnT K mg "_law_arranged" "_law_arranged" s__law_arranged (fa 25) (fd 25) ["order", "lanes_here", "car"]
  f20 : FnT K mg "_law_cell" "_law_cell" s__law_cell (fa 20) (fd 20) ["script", "k"]
  f21 : FnT K mg "_law_row" "_law_row" s__law_row (fa 21) (fd 21) ["script", "at"]
  f22 : FnT K mg "_law_order" "_law_order" s__law_order (fa 22) (fd 22) ["script", "at", "most"]
  f28 : FnT K mg "law" "law" s_law (fa 28) (fd 28) ["script"]
  b_bool : mg "bool" = none
  b_enumerate : mg "enumerate" = none
  b_int : mg "int" = none
  b_isinstance : mg "isinstance" = none
  b_len : mg "len" = none
  b_list : mg "list" = none
  b_min : mg "min" = none
  b_range : mg "range" = none
  b_set : mg "set" = none
  b_sorted : mg "sorted" = none
  b_tuple : mg "tuple" = none
  c_MAX_CARS : ∃ t, mg "MAX_CARS" = some (.int 7 t)
  x_LaneError : ExT K mg "LaneError" (xc 0)
  x_InvalidOrder : ExT K mg "InvalidOrder" (xc 2)
  x_InvalidLanes : ExT K mg "InvalidLanes" (xc 5)
  x_NoRoad : ExT K mg "NoRoad" (xc 7)
  xs : ∀ y ∈ [2, 5, 7], ExcC K (xc y)
  kt : ∀ y ∈ [2, 5, 7], ∀ c ∈ [0, 2, 5, 7], PySem.W.kitOne K (.ref (xc y)) (.ref (xc c)) = some (subB y c)
  em : ∀ y ∈ [2, 5, 7], ∀ c ∈ [0, 2, 5, 7], PySem.W.exmOne K (.ref (xc y)) (.ref (xc c)) = some (subB y c)
section
variable {P : Program} {w : World} {K : PySem.W.Frag} {mg : Str → Option Value} {base : Heap} {xc fa : Nat → Addr} {fd : Nat → FuncData}
theorem ok__law_in_way (T : Txt K mg xc fa fd) : FnOk P w K mg base (L2.CX P w) 2 (fa 23) (fd 23) ["order", "car", "later"] (spD K xc [true, true, true] D__law_in_way) :=
  fn_is T.f23.F sc__law_in_way rfl rfl (fun cdv A outer s H E hr hu tk po =>
    (ds_one (ds_ret (de_and (de_lt (de_var (pv 1)) (de_var (pv 2))) (de_one (de_lt (de_E (de_indexU (pe_tm PySem.F.slot_tuple_index PySem.F.type_tuple_index (mt_indexU hu) (de_var (pv 0)) (pa_cons (de_var (pv 1)) pa_nil)))) (de_E (de_indexU (pe_tm PySem.F.slot_tuple_index PySem.F.type_tuple_index (mt_indexU hu) (de_var (pv 0)) (pa_cons (de_var (pv 2)) pa_nil))))))))))
theorem ok__law_free (T : Txt K mg xc fa fd) : FnOk P w K mg base (L2.CX P w) 3 (fa 24) (fd 24) ["order", "lane"] (spD K xc [true, true] D__law_free) :=
  fn_is T.f24.F sc__law_free rfl rfl (fun cdv A outer s H E hr hu tk po =>
    (ds_cons (ds_for po (by rfl) (dif_seq (de_varF (pv 1))) (pg_name (i := 2) sc__law_free.nd rfl (by first | exact .inl rfl | exact .inr rfl)) gok_1 (ds_one (ds_if (dt_ne hr (de_NE (de_lc (own := [("later", 3)]) (by rfl) sc__law_free.nd (die_seq (de_var (pv 1))) (blkOk_by (own := [("later", 3)]) (N := N__law_free) (sc := defScope s__law_free) (by decide +kernel)) (fun _ _ _ _ _ => (pg_name (i := 3) sc__law_free.nd rfl (by first | exact .inl rfl | exact .inr rfl))) gok_1 (gw_1 (by decide)) (fun _ _ _ _ _ => (dts_one (dt_tru (de_E (de_call (ok__law_in_way T) (hr.mono (by decide)) (by rfl) T.f23.g T.f23.F.kp T.f23.b takes0 (db_F (de_varF (pv 0)) (db_F (de_varF (pv 2)) (db_F (de_varF (pv 3)) db_nil)))))))) (fun _ _ _ _ _ => (de_varF (pv 3))))) (de_NE (de_lst df_nil))) (ds_one (ds_ret de_bl)) ds_nil)))
    (ds_one (ds_ret de_bl))))
theorem ok__law_moved (T : Txt K mg xc fa fd) : FnOk P w K mg base (L2.CX P w) 4 (fa 26) (fd 26) ["order", "lanes_here"] (spD K xc [true, true] D__law_moved) :=
  fn_is T.f26.F sc__law_moved rfl rfl (fun cdv A outer s H E hr hu tk po =>
    (ds_cons (ds_setN (ps_set (i := 2) sc__law_moved.nd rfl (by first | exact .inl rfl | exact .inr rfl) (de_lst df_nil)))
    (ds_cons (ds_for po (by rfl) (dif_rng1 (by rfl) T.b_range (de_E (de_len (by rfl) T.b_len (de_var (pv 1))))) (pg_name (i := 3) sc__law_moved.nd rfl (by first | exact .inl rfl | exact .inr rfl)) gok_1 (ds_one (ds_for po (by rfl) (dif_seq (de_ix (de_var (pv 1)) (de_var (pv 3)))) (pg_name (i := 4) sc__law_moved.nd rfl (by first | exact .inl rfl | exact .inr rfl)) gok_1 (ds_one (ds_for po (by rfl) (dif_rng1 (by rfl) T.b_range (de_E (de_len (by rfl) T.b_len (de_var (pv 1))))) (pg_name (i := 5) sc__law_moved.nd rfl (by first | exact .inl rfl | exact .inr rfl)) gok_1 (ds_cons (ds_set (ps_set (i := 6) sc__law_moved.nd rfl (by first | exact .inl rfl | exact .inr rfl) (de_tuple (by rfl) T.b_tuple (de_NE (de_sorted hu (by rfl) T.b_sorted (de_E (de_add (de_E (de_ix (de_var (pv 1)) (de_var (pv 5)))) (de_E (de_tup (df_cons (de_varF (pv 4)) df_nil))))))))))
    (ds_one (ds_if (dt_w (dw_and (dt_ne hr (de_var (pv 5)) (de_var (pv 3))) (dw_and (dt_gt (de_E (de_len (by rfl) T.b_len (de_E (de_ix (de_var (pv 1)) (de_var (pv 3)))))) (de_E de_int)) (dw_and1 (dt_tru (de_E (de_call (ok__law_free T) (hr.mono (by decide)) (by rfl) T.f24.g T.f24.F.kp T.f24.b tk (db_F (de_varF (pv 0)) (db_F (de_varF (pv 6)) db_nil))))))))) (ds_cons (ds_setN (ps_lc (own := [("spot", 8)]) (i := 7) (by rfl) sc__law_moved.nd rfl rfl (sw_true rfl rfl rfl (by decide +kernel)) (di_if (dif_rng1 (by rfl) T.b_range (de_E (de_len (by rfl) T.b_len (de_var (pv 1)))))) (blkOk_by (own := [("spot", 8)]) (N := N__law_moved) (sc := defScope s__law_moved) (by decide +kernel)) (fun _ _ _ _ _ => (pg_name (i := 8) sc__law_moved.nd rfl (by first | exact .inl rfl | exact .inr rfl))) gok_1 (gw_1 (by decide)) (fun _ _ _ _ _ => (dts_one (dt_notIn hu (de_var (pv 8)) (de_E (de_tup (df_cons (de_varF (pv 3)) (df_cons (de_varF (pv 5)) df_nil))))))) (fun _ _ _ _ _ => (de_ix (de_var (pv 1)) (de_var (pv 8))))))
    (ds_cons (ds_app (ps_expr (pe_bm PySem.F.plainAttrs_list PySem.F.slot_list_append PySem.F.type_list_append mt_append (pv 7) (pa_cons (de_tuple (by rfl) T.b_tuple (de_NE (de_lc (own := [("one", 9)]) (by rfl) sc__law_moved.nd (die_seq (de_E (de_ix (de_var (pv 1)) (de_var (pv 3))))) (blkOk_by (own := [("one", 9)]) (N := N__law_moved) (sc := defScope s__law_moved) (by decide +kernel)) (fun _ _ _ _ _ => (pg_name (i := 9) sc__law_moved.nd rfl (by first | exact .inl rfl | exact .inr rfl))) gok_1 (gw_1 (by decide)) (fun _ _ _ _ _ => (dts_one (dt_ne hr (de_var (pv 9)) (de_var (pv 4))))) (fun _ _ _ _ _ => (de_varF (pv 9)))))) pa_nil))))
    (ds_one (ds_app (ps_expr (pe_bm PySem.F.plainAttrs_list PySem.F.slot_list_append PySem.F.type_list_append mt_append (pv 2) (pa_cons (de_tuple (by rfl) T.b_tuple (de_NE (de_sorted hu (by rfl) T.b_sorted (de_E (de_add (de_var (pv 7)) (de_NE (de_lst (df_cons (de_varF (pv 6)) df_nil)))))))) pa_nil))))))) ds_nil))))))))
    (ds_one (ds_ret (de_NF (de_sortSN (by rfl) hu (by rfl) T.b_sorted (by rfl) T.b_set (de_var (pv 2)))))))))
theorem ok_blocks (T : Txt K mg xc fa fd) : FnOk P w K mg base (L2.CX P w) 2 (fa 10) (fd 10) ["order", "car", "later"] (spD K xc [true, true, true] D_blocks) :=
  fn_is T.f10.F sc_blocks rfl rfl (fun cdv A outer s H E hr hu tk po =>
    (ds_one (ds_ret (de_and (de_lt (de_var (pv 1)) (de_var (pv 2))) (de_one (de_lt (de_E (de_indexU (pe_tm PySem.F.slot_tuple_index PySem.F.type_tuple_index (mt_indexU hu) (de_var (pv 0)) (pa_cons (de_var (pv 1)) pa_nil)))) (de_E (de_indexU (pe_tm PySem.F.slot_tuple_index PySem.F.type_tuple_index (mt_indexU hu) (de_var (pv 0)) (pa_cons (de_var (pv 2)) pa_nil))))))))))
theorem ok_is_free_of (T : Txt K mg xc fa fd) : FnOk P w K mg base (L2.CX P w) 3 (fa 12) (fd 12) ["order", "some"] (spD K xc [true, true] D_is_free_of) :=
  fn_is T.f12.F sc_is_free_of rfl rfl (fun cdv A outer s H E hr hu tk po =>
    (ds_cons (ds_for po (by rfl) (dif_enum (by rfl) T.b_enumerate (de_varF (pv 1))) (pg_tup (n := 2) (by rfl) (pgs_cons (pg_name (i := 2) sc_is_free_of.nd rfl (by first | exact .inl rfl | exact .inr rfl)) (pgs_cons (pg_name (i := 3) sc_is_free_of.nd rfl (by first | exact .inl rfl | exact .inr rfl)) pgs_nil))) (gok_N (is := [2, 3])) (ds_one (ds_if (dt_tru (de_NE (de_lc (own := [("later", 4)]) (by rfl) sc_is_free_of.nd (die_seq (de_E (de_sl (de_var (pv 1)) (do_some (de_E (de_add (de_var (pv 2)) (de_E de_int)))) do_none))) (blkOk_by (own := [("later", 4)]) (N := N_is_free_of) (sc := defScope s_is_free_of) (by decide +kernel)) (fun _ _ _ _ _ => (pg_name (i := 4) sc_is_free_of.nd rfl (by first | exact .inl rfl | exact .inr rfl))) gok_1 (gw_1 (by decide)) (fun _ _ _ _ _ => (dts_one (dt_tru (de_E (de_call (ok_blocks T) (hr.mono (by decide)) (by rfl) T.f10.g T.f10.F.kp T.f10.b takes0 (db_F (de_varF (pv 0)) (db_F (de_varF (pv 3)) (db_F (de_varF (pv 4)) db_nil)))))))) (fun _ _ _ _ _ => (de_varF (pv 4)))))) (ds_one (ds_ret de_bl)) ds_nil)))
    (ds_one (ds_ret de_bl))))
theorem ok_sorted_lanes (T : Txt K mg xc fa fd) : FnOk P w K mg base (L2.CX P w) 2 (fa 14) (fd 14) ["lanes"] (spD K xc [true] D_sorted_lanes) :=
  fn_is T.f14.F sc_sorted_lanes rfl rfl (fun cdv A outer s H E hr hu tk po =>
    (ds_one (ds_ret (de_tuple (by rfl) T.b_tuple (de_NE (de_sorted hu (by rfl) T.b_sorted (de_NE (de_lc (own := [("lane", 1)]) (by rfl) sc_sorted_lanes.nd (die_seq (de_var (pv 0))) (blkOk_by (own := [("lane", 1)]) (N := N_sorted_lanes) (sc := defScope s_sorted_lanes) (by decide +kernel)) (fun _ _ _ _ _ => (pg_name (i := 1) sc_sorted_lanes.nd rfl (by first | exact .inl rfl | exact .inr rfl))) gok_1 (gw_1 (by decide)) (fun _ _ _ _ _ => (dts_one (dt_tru (de_var (pv 1))))) (fun _ _ _ _ _ => (de_tuple (by rfl) T.b_tuple (de_NE (de_sorted hu (by rfl) T.b_sorted (de_var (pv 1))))))))))))))
theorem ok_near_of (T : Txt K mg xc fa fd) : FnOk P w K mg base (L2.CX P w) 4 (fa 15) (fd 15) ["order", "lanes"] (spD K xc [true, true] D_near_of) :=
  fn_is T.f15.F sc_near_of rfl rfl (fun cdv A outer s H E hr hu tk po =>
    (ds_cons (ds_newDn (ps_set (i := 2) sc_near_of.nd rfl (by first | exact .inl rfl | exact .inr rfl) pe_dnewN))
    (ds_cons (ds_for po (by rfl) (dif_enum (by rfl) T.b_enumerate (de_varF (pv 1))) (pg_tup (n := 2) (by rfl) (pgs_cons (pg_name (i := 3) sc_near_of.nd rfl (by first | exact .inl rfl | exact .inr rfl)) (pgs_cons (pg_name (i := 4) sc_near_of.nd rfl (by first | exact .inl rfl | exact .inr rfl)) pgs_nil))) (gok_N (is := [3, 4])) (ds_one (ds_for po (by rfl) (dif_seq (de_varF (pv 4))) (pg_name (i := 5) sc_near_of.nd rfl (by first | exact .inl rfl | exact .inr rfl)) gok_1 (ds_cons (ds_set (ps_set (i := 6) sc_near_of.nd rfl (by first | exact .inl rfl | exact .inr rfl) (de_tuple (by rfl) T.b_tuple (de_NE (de_lc (own := [("one", 11)]) (by rfl) sc_near_of.nd (die_seq (de_var (pv 4))) (blkOk_by (own := [("one", 11)]) (N := N_near_of) (sc := defScope s_near_of) (by decide +kernel)) (fun _ _ _ _ _ => (pg_name (i := 11) sc_near_of.nd rfl (by first | exact .inl rfl | exact .inr rfl))) gok_1 (gw_1 (by decide)) (fun _ _ _ _ _ => (dts_one (dt_ne hr (de_var (pv 11)) (de_var (pv 5))))) (fun _ _ _ _ _ => (de_varF (pv 11))))))))
    (ds_one (ds_for po (by rfl) (dif_enum (by rfl) T.b_enumerate (de_varF (pv 1))) (pg_tup (n := 2) (by rfl) (pgs_cons (pg_name (i := 7) sc_near_of.nd rfl (by first | exact .inl rfl | exact .inr rfl)) (pgs_cons (pg_name (i := 8) sc_near_of.nd rfl (by first | exact .inl rfl | exact .inr rfl)) pgs_nil))) (gok_N (is := [7, 8])) (ds_cons (ds_set (ps_set (i := 9) sc_near_of.nd rfl (by first | exact .inl rfl | exact .inr rfl) (de_NF (de_sorted hu (by rfl) T.b_sorted (de_E (de_add (de_var (pv 8)) (de_E (de_tup (df_cons (de_varF (pv 5)) df_nil)))))))))
    (ds_one (ds_if (dt_w (dw_and (dt_ne hr (de_var (pv 7)) (de_var (pv 3))) (dw_and (dt_tru (de_var (pv 6))) (dw_and1 (dt_tru (de_E (de_call (ok_is_free_of T) (hr.mono (by decide)) (by rfl) T.f12.g T.f12.F.kp T.f12.b tk (db_F (de_varF (pv 0)) (db_F (de_varF (pv 9)) db_nil))))))))) (ds_cons (ds_setN (ps_set (i := 10) sc_near_of.nd rfl (by first | exact .inl rfl | exact .inr rfl) (de_list (by rfl) T.b_list (de_var (pv 1)))))
    (ds_cons (ds_setIx (ps_asg (de_varF (pv 6)) (pg_sub (pv 10) (de_var (pv 3)) set_list)))
    (ds_cons (ds_setIx (ps_asg (de_tuple (by rfl) T.b_tuple (de_var (pv 9))) (pg_sub (pv 10) (de_var (pv 7)) set_list)))
    (ds_one (ds_frz (i := 10) (ds_nput (ps_nput (Nat.lt_of_le_of_lt (Nat.add_le_add_left (by decide) _) hu) (pv 2) (de_E (de_call (ok_sorted_lanes T) (hr.mono (by decide)) (by rfl) T.f14.g T.f14.F.kp T.f14.b tk (db_F (de_varF (pv 10)) db_nil))) de_bl (by rfl)))))))) ds_nil)))))))))
    (ds_one (ds_ret (de_NF (de_sortDn (by rfl) hu (by rfl) T.b_sorted (pv 2))))))))
theorem ok_in_range (T : Txt K mg xc fa fd) : FnOk P w K mg base (L2.CX P w) 2 (fa 7) (fd 7) ["value", "low", "high"] (spD K xc [true, true, true] D_in_range) :=
  fn_is T.f7.F sc_in_range rfl rfl (fun cdv A outer s H E hr hu tk po =>
    (ds_one (ds_ret (de_and (de_isiInt (by rfl) T.b_isinstance (by rfl) T.b_int (de_var (pv 0))) (de_and (de_not (de_E (de_isiBool (by rfl) T.b_isinstance (by rfl) T.b_bool (de_var (pv 0))))) (de_one (de_chainLe (de_var (pv 1)) (de_var (pv 0)) (de_var (pv 2)))))))))
theorem ok_are_lanes_of (T : Txt K mg xc fa fd) : FnOk P w K mg base (L2.CX P w) 4 (fa 13) (fd 13) ["order", "value"] (spD K xc [true, true] D_are_lanes_of) :=
  fn_is T.f13.F sc_are_lanes_of rfl rfl (fun cdv A outer s H E hr hu tk po =>
    (ds_cons (ds_if (dt_w (dw_or (dt_not (dt_tru (de_E (de_isiTuple (by rfl) T.b_isinstance (by rfl) T.b_tuple (de_var (pv 1)))))) (dw_or1 (dt_tru (de_NE (de_lc (own := [("lane", 3)]) (by rfl) sc_are_lanes_of.nd (die_seq (de_var (pv 1))) (blkOk_by (own := [("lane", 3)]) (N := N_are_lanes_of) (sc := defScope s_are_lanes_of) (by decide +kernel)) (fun _ _ _ _ _ => (pg_name (i := 3) sc_are_lanes_of.nd rfl (by first | exact .inl rfl | exact .inr rfl))) gok_1 (gw_1 (by decide)) (fun _ _ _ _ _ => (dts_one (dt_w (dw_or (dt_not (dt_tru (de_E (de_isiTuple (by rfl) T.b_isinstance (by rfl) T.b_tuple (de_var (pv 3)))))) (dw_or1 (dt_not (dt_tru (de_var (pv 3))))))))) (fun _ _ _ _ _ => (de_varF (pv 3))))))))) (ds_one (ds_ret de_bl)) ds_nil)
    (ds_cons (ds_setN (ps_set (i := 2) sc_are_lanes_of.nd rfl (by first | exact .inl rfl | exact .inr rfl) (de_lst df_nil)))
    (ds_cons (ds_for po (by rfl) (dif_seq (de_varF (pv 1))) (pg_name (i := 3) sc_are_lanes_of.nd rfl (by first | exact .inl rfl | exact .inr rfl)) gok_1 (ds_one (ds_ext (ps_expr (pe_bm PySem.F.plainAttrs_list PySem.F.slot_list_extend PySem.F.type_list_extend mt_extS (pv 2) (pa_cons (de_var (pv 3)) pa_nil))))))
    (ds_cons (ds_if (dt_tru (de_NE (de_lc (own := [("car", 5)]) (by rfl) sc_are_lanes_of.nd (die_seq (de_var (pv 2))) (blkOk_by (own := [("car", 5)]) (N := N_are_lanes_of) (sc := defScope s_are_lanes_of) (by decide +kernel)) (fun _ _ _ _ _ => (pg_name (i := 5) sc_are_lanes_of.nd rfl (by first | exact .inl rfl | exact .inr rfl))) gok_1 (gw_1 (by decide)) (fun _ _ _ _ _ => (dts_one (dt_not (dt_tru (de_E (de_call (ok_in_range T) (hr.mono (by decide)) (by rfl) T.f7.g T.f7.F.kp T.f7.b takes0 (db_F (de_varF (pv 5)) (db_F de_int (db_F (de_sub (de_E (de_len (by rfl) T.b_len (de_var (pv 0)))) (de_E de_int)) db_nil))))))))) (fun _ _ _ _ _ => (de_varF (pv 5)))))) (ds_one (ds_ret de_bl)) ds_nil)
    (ds_cons (ds_if (dt_w (dw_or (dt_ne hr (de_NE (de_sorted hu (by rfl) T.b_sorted (de_var (pv 2)))) (de_NE (de_listRg (by rfl) (by rfl) T.b_list (by rfl) T.b_range (de_E (de_len (by rfl) T.b_len (de_var (pv 0))))))) (dw_or1 (dt_tru (de_NE (de_lc (own := [("lane", 3)]) (by rfl) sc_are_lanes_of.nd (die_seq (de_var (pv 1))) (blkOk_by (own := [("lane", 3)]) (N := N_are_lanes_of) (sc := defScope s_are_lanes_of) (by decide +kernel)) (fun _ _ _ _ _ => (pg_name (i := 3) sc_are_lanes_of.nd rfl (by first | exact .inl rfl | exact .inr rfl))) gok_1 (gw_1 (by decide)) (fun _ _ _ _ _ => (dts_one (dt_ne hr (de_NE (de_list (by rfl) T.b_list (de_var (pv 3)))) (de_NE (de_sorted hu (by rfl) T.b_sorted (de_var (pv 3))))))) (fun _ _ _ _ _ => (de_varF (pv 3))))))))) (ds_one (ds_ret de_bl)) ds_nil)
    (ds_cons (ds_set (tAsg_F (ps_lc (own := [("lane", 3)]) (i := 4) (by rfl) sc_are_lanes_of.nd rfl rfl (sw_true rfl rfl rfl (by decide +kernel)) (die_seq (de_var (pv 1))) (blkOk_by (own := [("lane", 3)]) (N := N_are_lanes_of) (sc := defScope s_are_lanes_of) (by decide +kernel)) (fun _ _ _ _ _ => (pg_name (i := 3) sc_are_lanes_of.nd rfl (by first | exact .inl rfl | exact .inr rfl))) gok_1 (gw_1 (by decide)) (fun _ _ _ _ _ => dts_nil) (fun _ _ _ _ _ => (de_ix (de_var (pv 3)) (de_E de_int))))))
    (ds_one (ds_ret (de_and (de_eq hr (de_var (pv 4)) (de_NE (de_sorted hu (by rfl) T.b_sorted (de_var (pv 4))))) (de_one (de_not (de_NE (de_lc (own := [("lane", 3)]) (by rfl) sc_are_lanes_of.nd (die_seq (de_var (pv 1))) (blkOk_by (own := [("lane", 3)]) (N := N_are_lanes_of) (sc := defScope s_are_lanes_of) (by decide +kernel)) (fun _ _ _ _ _ => (pg_name (i := 3) sc_are_lanes_of.nd rfl (by first | exact .inl rfl | exact .inr rfl))) gok_1 (gw_1 (by decide)) (fun _ _ _ _ _ => (dts_one (dt_not (dt_tru (de_E (de_call (ok_is_free_of T) (hr.mono (by decide)) (by rfl) T.f12.g T.f12.F.kp T.f12.b takes0 (db_F (de_varF (pv 0)) (db_F (de_varF (pv 3)) db_nil)))))))) (fun _ _ _ _ _ => (de_varF (pv 3)))))))))))))))))
theorem ok_is_order (T : Txt K mg xc fa fd) : FnOk P w K mg base (L2.CX P w) 3 (fa 8) (fd 8) ["value"] (spD K xc [true] D_is_order) :=
  fn_is T.f8.F sc_is_order rfl rfl (fun cdv A outer s H E hr hu tk po =>
    (ds_cons (ds_if (dt_w (dw_or (dt_not (dt_tru (de_E (de_isiTuple (by rfl) T.b_isinstance (by rfl) T.b_tuple (de_var (pv 0)))))) (dw_or1 (dt_not (dt_chainLe (de_E de_int) (de_E (de_len (by rfl) T.b_len (de_var (pv 0)))) (de_E (de_c (pe_glob (v := .int 7) (by rfl) T.c_MAX_CARS.choose_spec ⟨_, rfl⟩) fun _ => .int _))))))) (ds_one (ds_ret de_bl)) ds_nil)
    (ds_cons (ds_if (dt_tru (de_NE (de_lc (own := [("car", 1)]) (by rfl) sc_is_order.nd (die_seq (de_var (pv 0))) (blkOk_by (own := [("car", 1)]) (N := N_is_order) (sc := defScope s_is_order) (by decide +kernel)) (fun _ _ _ _ _ => (pg_name (i := 1) sc_is_order.nd rfl (by first | exact .inl rfl | exact .inr rfl))) gok_1 (gw_1 (by decide)) (fun _ _ _ _ _ => (dts_one (dt_not (dt_tru (de_E (de_call (ok_in_range T) (hr.mono (by decide)) (by rfl) T.f7.g T.f7.F.kp T.f7.b takes0 (db_F (de_varF (pv 1)) (db_F de_int (db_F (de_sub (de_E (de_len (by rfl) T.b_len (de_var (pv 0)))) (de_E de_int)) db_nil))))))))) (fun _ _ _ _ _ => (de_varF (pv 1)))))) (ds_one (ds_ret de_bl)) ds_nil)
    (ds_one (ds_ret (de_eq hr (de_E (de_lenSet (by rfl) (by rfl) T.b_len (by rfl) T.b_set (de_var (pv 0)))) (de_E (de_len (by rfl) T.b_len (de_var (pv 0))))))))))
theorem ok_check_order (T : Txt K mg xc fa fd) : FnOk P w K mg base (L2.CX P w) 4 (fa 9) (fd 9) ["order"] (spD K xc [true] D_check_order) :=
  fn_is T.f9.F sc_check_order rfl rfl (fun cdv A outer s H E hr hu tk po =>
    (ds_one (ds_if (dt_not (dt_tru (de_E (de_call (ok_is_order T) (hr.mono (by decide)) (by rfl) T.f8.g T.f8.F.kp T.f8.b tk (db_F (de_varF (pv 0)) db_nil))))) (ds_one (ds_raise rfl (ps_raise (by rfl) tk (pmk_own PySem.F.excBase_ValueError T.x_InvalidOrder.e T.x_InvalidOrder.g T.x_InvalidOrder.k (raises_own T.x_InvalidOrder.b T.x_InvalidOrder.t) (by rfl))))) ds_nil)))
theorem ok_check_lanes (T : Txt K mg xc fa fd) : FnOk P w K mg base (L2.CX P w) 5 (fa 16) (fd 16) ["order", "lanes"] (spD K xc [true, true] D_check_lanes) :=
  fn_is T.f16.F sc_check_lanes rfl rfl (fun cdv A outer s H E hr hu tk po =>
    (ds_cons (ds_expr (ps_expr (de_call (ok_check_order T) (hr.mono (by decide)) (by rfl) T.f9.g T.f9.F.kp T.f9.b tk (db_F (de_varF (pv 0)) db_nil))))
    (ds_one (ds_if (dt_not (dt_tru (de_E (de_call (ok_are_lanes_of T) (hr.mono (by decide)) (by rfl) T.f13.g T.f13.F.kp T.f13.b tk (db_F (de_varF (pv 0)) (db_F (de_varF (pv 1)) db_nil)))))) (ds_one (ds_raise rfl (ps_raise (by rfl) tk (pmk_own PySem.F.excBase_ValueError T.x_InvalidLanes.e T.x_InvalidLanes.g T.x_InvalidLanes.k (raises_own T.x_InvalidLanes.b T.x_InvalidLanes.t) (by rfl))))) ds_nil))))
theorem ok_road (T : Txt K mg xc fa fd) : FnOk P w K mg base (L2.CX P w) 6 (fa 18) (fd 18) ["order", "one", "other"] (spD K xc [true, true, true] D_road) :=
  fn_is T.f18.F sc_road rfl rfl (fun cdv A outer s H E hr hu tk po =>
    (ds_cons (ds_expr (ps_expr (de_call (ok_check_lanes T) (hr.mono (by decide)) (by rfl) T.f16.g T.f16.F.kp T.f16.b tk (db_F (de_varF (pv 0)) (db_F (de_varF (pv 1)) db_nil)))))
    (ds_cons (ds_expr (ps_expr (de_call (ok_check_lanes T) (hr.mono (by decide)) (by rfl) T.f16.g T.f16.F.kp T.f16.b tk (db_F (de_varF (pv 0)) (db_F (de_varF (pv 2)) db_nil)))))
    (ds_cons (ds_newDn1 (ps_set (i := 3) sc_road.nd rfl (by first | exact .inl rfl | exact .inr rfl) (pe_ndisp (Nat.lt_of_le_of_lt (Nat.add_le_add_left (by decide) _) hu) (de_var (pv 1)) de_non)))
    (ds_cons (ds_setN (ps_set (i := 4) sc_road.nd rfl (by first | exact .inl rfl | exact .inr rfl) (de_lst (df_cons (de_varF (pv 1)) df_nil))))
    (ds_cons (ds_while 100 po (dt_w (dw_and (dt_tru (de_var (pv 4))) (dw_and1 (dt_nnotin hu (de_var (pv 2)) (pv 3))))) (ds_cons (ds_setPop (ps_set (i := 5) sc_road.nd rfl (by first | exact .inl rfl | exact .inr rfl) (pe_bm PySem.F.plainAttrs_list PySem.F.slot_list_pop PySem.F.type_list_pop mt_popAt (pv 4) (pa_cons (de_E de_int) pa_nil))))
    (ds_one (ds_for po (by rfl) (dif_seq (de_call (ok_near_of T) (hr.mono (by decide)) (by rfl) T.f15.g T.f15.F.kp T.f15.b tk (db_F (de_varF (pv 0)) (db_F (de_varF (pv 5)) db_nil)))) (pg_name (i := 6) sc_road.nd rfl (by first | exact .inl rfl | exact .inr rfl)) gok_1 (ds_one (ds_if (dt_nnotin hu (de_var (pv 6)) (pv 3)) (ds_cons (ds_nput (ps_nput (Nat.lt_of_le_of_lt (Nat.add_le_add_left (by decide) _) hu) (pv 3) (de_var (pv 6)) (de_varF (pv 5)) (by rfl)))
    (ds_one (ds_app (ps_expr (pe_bm PySem.F.plainAttrs_list PySem.F.slot_list_append PySem.F.type_list_append mt_append (pv 4) (pa_cons (de_varF (pv 6)) pa_nil)))))) ds_nil))))))
    (ds_cons (ds_if (dt_nnotin hu (de_var (pv 2)) (pv 3)) (ds_one (ds_raise rfl (ps_raise (by rfl) tk (pmk_own PySem.F.excBase_ValueError T.x_NoRoad.e T.x_NoRoad.g T.x_NoRoad.k (raises_own T.x_NoRoad.b T.x_NoRoad.t) (by rfl))))) ds_nil)
    (ds_cons (ds_setN (ps_set (i := 7) sc_road.nd rfl (by first | exact .inl rfl | exact .inr rfl) (de_lst (df_cons (de_varF (pv 2)) df_nil))))
    (ds_cons (ds_while 100 po (dt_notN (de_E (de_nget hu (pv 3) (de_E (de_ix (de_var (pv 7)) (de_E (de_neg (de_E de_int))))) (fun _ _ => rfl)))) (ds_one (ds_app (ps_expr (pe_bm PySem.F.plainAttrs_list PySem.F.slot_list_append PySem.F.type_list_append mt_append (pv 7) (pa_cons (de_nget hu (pv 3) (de_E (de_ix (de_var (pv 7)) (de_E (de_neg (de_E de_int))))) (fun _ _ => rfl)) pa_nil))))))
    (ds_one (ds_ret (de_NF (de_revL (de_var (pv 7)))))))))))))))
theorem ok_near (T : Txt K mg xc fa fd) : FnOk P w K mg base (L2.CX P w) 6 (fa 17) (fd 17) ["order", "lanes"] (spD K xc [true, true] D_near) :=
  fn_is T.f17.F sc_near rfl rfl (fun cdv A outer s H E hr hu tk po =>
    (ds_cons (ds_expr (ps_expr (de_call (ok_check_lanes T) (hr.mono (by decide)) (by rfl) T.f16.g T.f16.F.kp T.f16.b tk (db_F (de_varF (pv 0)) (db_F (de_varF (pv 1)) db_nil)))))
    (ds_one (ds_ret (de_call (ok_near_of T) (hr.mono (by decide)) (by rfl) T.f15.g T.f15.F.kp T.f15.b tk (db_F (de_varF (pv 0)) (db_F (de_varF (pv 1)) db_nil)))))))
theorem ok__law_led (T : Txt K mg xc fa fd) : FnOk P w K mg base (L2.CX P w) 7 (fa 27) (fd 27) ["mode", "order", "one", "other"] (spD K xc [true, true, true, true] D__law_led) :=
  fn_is T.f27.F sc__law_led rfl rfl (fun cdv A outer s H E hr hu tk po =>
    (ds_one (ds_tryM (by rfl) (by rfl) sc__law_led.nd rfl (by rfl) tk (fun _ _ _ tk po => (ds_one (ds_ret (de_if kF_back (dt_eq hr (de_var (pv 0)) (de_E de_int)) (de_call (ok_road T) (hr.mono (by decide)) (by rfl) T.f18.g T.f18.F.kp T.f18.b tk (db_F (de_varF (pv 1)) (db_F (de_varF (pv 2)) (db_F (de_varF (pv 3)) db_nil)))) (de_call (ok_near T) (hr.mono (by decide)) (by rfl) T.f17.g T.f17.F.kp T.f17.b tk (db_F (de_varF (pv 1)) (db_F (de_varF (pv 2)) db_nil))))))) (.cons ⟨by rfl, by decide, .inl T.x_NoRoad.g⟩ (fun y b hy => by obtain ⟨h1, h2⟩ := mX_mem hy; rw [← h2]; exact T.em y.cls h1 7 (by decide)) steady__law_led_0 (fun a dd oe y d pn hy hz hf hd hd2 => (ds_one (ds_ret (de_if kF_back (dt_w (dw_and (dt_tru (de_E (de_isE (T.xs _ (mX_mem hy).1) hz hf hd hd2 (by rfl) T.b_isinstance (pv 4) (pe_glob (v := .ref (xc 0)) (by rfl) T.x_LaneError.g rfl) (fun u hu => hu) (T.kt _ (mX_mem hy).1 0 (by decide))))) (dw_and1 (dt_not (dt_tru (de_E (de_isE (T.xs _ (mX_mem hy).1) hz hf hd hd2 (by rfl) T.b_isinstance (pv 4) (pe_glob (v := .ref (xc 5)) (by rfl) T.x_InvalidLanes.g rfl) (fun u hu => hu) (T.kt _ (mX_mem hy).1 5 (by decide))))))))) de_str de_str)))) (.cons ⟨by rfl, by decide, .inl T.x_InvalidLanes.g⟩ (fun y b hy => by obtain ⟨h1, h2⟩ := mX_mem hy; rw [← h2]; exact T.em y.cls h1 5 (by decide)) steady__law_led_1 (fun a dd oe y d pn hy hz hf hd hd2 => (ds_one (ds_ret (de_if kF_back (dt_w (dw_and (dt_tru (de_E (de_isE (T.xs _ (mX_mem hy).1) hz hf hd hd2 (by rfl) T.b_isinstance (pv 4) (pe_glob (v := .ref (xc 0)) (by rfl) T.x_LaneError.g rfl) (fun u hu => hu) (T.kt _ (mX_mem hy).1 0 (by decide))))) (dw_and1 (dt_not (dt_tru (de_E (de_isE (T.xs _ (mX_mem hy).1) hz hf hd hd2 (by rfl) T.b_isinstance (pv 4) (pe_glob (v := .ref (xc 7)) (by rfl) T.x_NoRoad.g rfl) (fun u hu => hu) (T.kt _ (mX_mem hy).1 7 (by decide))))))))) de_str de_str)))) .nil)))))
theorem okR__law_arranged (T : Txt K mg xc fa fd) : ∀ d : Nat, FnOk P w K mg base (L2.CX P w) (4 + d + 2) (fa 25) (fd 25) ["order", "lanes_here", "car"] (spD K xc [true, true, true] (DR__law_arranged d))
  | 0 => fn_bad
  | d + 1 => fn_is (m := 4 + d + 1) T.f25.F sc__law_arranged rfl rfl (fun cdv A outer s H E hr hu tk po =>
    (ds_cons (ds_if (dt_eq hr (de_var (pv 2)) (de_E (de_len (by rfl) T.b_len (de_var (pv 0))))) (ds_one (ds_ret (de_NF (de_lst (df_cons (de_varF (pv 1)) df_nil))))) ds_nil)
    (ds_cons (ds_set (ps_set (i := 3) sc__law_arranged.nd rfl (by first | exact .inl rfl | exact .inr rfl) (de_call (okR__law_arranged T d) (hr.mono (by omega)) (by rfl) T.f25.g T.f25.F.kp T.f25.b tk (db_F (de_varF (pv 0)) (db_F (de_add (de_var (pv 1)) (de_E (de_tup (df_cons (de_tup (df_cons (de_varF (pv 2)) df_nil)) df_nil)))) (db_F (de_add (de_var (pv 2)) (de_E de_int)) db_nil))))))
    (ds_cons (ds_for po (by rfl) (dif_rng1 (by rfl) T.b_range (de_E (de_len (by rfl) T.b_len (de_var (pv 1))))) (pg_name (i := 4) sc__law_arranged.nd rfl (by first | exact .inl rfl | exact .inr rfl)) gok_1 (ds_cons (ds_set (ps_set (i := 5) sc__law_arranged.nd rfl (by first | exact .inl rfl | exact .inr rfl) (de_add (de_E (de_ix (de_var (pv 1)) (de_var (pv 4)))) (de_E (de_tup (df_cons (de_varF (pv 2)) df_nil))))))
    (ds_one (ds_if (dt_tru (de_E (de_call (ok__law_free T) (hr.mono (by omega)) (by rfl) T.f24.g T.f24.F.kp T.f24.b tk (db_F (de_varF (pv 0)) (db_F (de_varF (pv 5)) db_nil))))) (ds_one (ds_set (ps_set (i := 3) sc__law_arranged.nd rfl (by first | exact .inl rfl | exact .inr rfl) (de_add (de_var (pv 3)) (de_E (de_call (okR__law_arranged T d) (hr.mono (by omega)) (by rfl) T.f25.g T.f25.F.kp T.f25.b tk (db_F (de_varF (pv 0)) (db_F (de_add (de_E (de_add (de_E (de_sl (de_var (pv 1)) do_none (do_some (de_var (pv 4))))) (de_E (de_tup (df_cons (de_varF (pv 5)) df_nil))))) (de_E (de_sl (de_var (pv 1)) (do_some (de_E (de_add (de_var (pv 4)) (de_E de_int)))) do_none))) (db_F (de_add (de_var (pv 2)) (de_E de_int)) db_nil))))))))) ds_nil))))
    (ds_one (ds_ret (de_varF (pv 3))))))))
theorem ok__law_arranged (T : Txt K mg xc fa fd) : FnOk P w K mg base (L2.CX P w) 14 (fa 25) (fd 25) ["order", "lanes_here", "car"] (spD K xc [true, true, true] D__law_arranged) := okR__law_arranged T 8
theorem ok__law_cell (T : Txt K mg xc fa fd) : FnOk P w K mg base (L2.CX P w) 2 (fa 20) (fd 20) ["script", "k"] (spD K xc [true, true] D__law_cell) :=
  fn_is T.f20.F sc__law_cell rfl rfl (fun cdv A outer s H E hr hu tk po =>
    (ds_cons (ds_if (dt_lt (de_var (pv 1)) (de_E (de_len (by rfl) T.b_len (de_var (pv 0))))) (ds_one (ds_ret (de_ix (de_var (pv 0)) (de_var (pv 1))))) ds_nil)
    (ds_one (ds_ret de_int))))
theorem ok__law_row (T : Txt K mg xc fa fd) : FnOk P w K mg base (L2.CX P w) 3 (fa 21) (fd 21) ["script", "at"] (spD K xc [true, true] D__law_row) :=
  fn_is T.f21.F sc__law_row rfl rfl (fun cdv A outer s H E hr hu tk po =>
    (ds_cons (ds_set (ps_set (i := 2) sc__law_row.nd rfl (by first | exact .inl rfl | exact .inr rfl) (de_call (ok__law_cell T) (hr.mono (by decide)) (by rfl) T.f20.g T.f20.F.kp T.f20.b tk (db_F (de_varF (pv 0)) (db_F (de_varF (pv 1)) db_nil)))))
    (ds_cons (ds_setN (ps_set (i := 3) sc__law_row.nd rfl (by first | exact .inl rfl | exact .inr rfl) (de_lst df_nil)))
    (ds_cons (ds_for po (by rfl) (dif_rng1 (by rfl) T.b_range (de_E de_int)) (pg_name (i := 4) sc__law_row.nd rfl (by first | exact .inl rfl | exact .inr rfl)) gok_1 (ds_one (ds_if (dt_lt (de_E (de_call (ok__law_cell T) (hr.mono (by decide)) (by rfl) T.f20.g T.f20.F.kp T.f20.b tk (db_F (de_varF (pv 0)) (db_F (de_varF (pv 1)) db_nil)))) (de_E (de_pow (de_E de_int) (de_E de_int)))) (ds_cons (ds_set (ps_set (i := 2) sc__law_row.nd rfl (by first | exact .inl rfl | exact .inr rfl) (de_mod (de_E (de_add (de_E (de_add (de_E (de_add (de_E (de_mul (de_var (pv 2)) (de_E de_int))) (de_E (de_mul (de_E de_int) (de_var (pv 4)))))) (de_E de_int))) (de_E (de_call (ok__law_cell T) (hr.mono (by decide)) (by rfl) T.f20.g T.f20.F.kp T.f20.b tk (db_F (de_varF (pv 0)) (db_F (de_mod (de_E (de_add (de_E (de_add (de_var (pv 1)) (de_E de_int))) (de_var (pv 4)))) (de_E de_int)) db_nil)))))) (de_E de_int))))
    (ds_one (ds_app (ps_expr (pe_bm PySem.F.plainAttrs_list PySem.F.slot_list_append PySem.F.type_list_append mt_append (pv 3) (pa_cons (de_mod (de_E (de_fdiv (de_var (pv 2)) (de_E de_int))) (de_E de_int)) pa_nil)))))) (ds_cons (ds_app (ps_expr (pe_bm PySem.F.plainAttrs_list PySem.F.slot_list_append PySem.F.type_list_append mt_append (pv 3) (pa_cons (de_mod (de_var (pv 2)) (de_E de_int)) pa_nil))))
    (ds_one (ds_set (ps_set (i := 2) sc__law_row.nd rfl (by first | exact .inl rfl | exact .inr rfl) (de_fdiv (de_var (pv 2)) (de_E de_int)))))))))
    (ds_one (ds_retV (pv 3)))))))
theorem ok__law_order (T : Txt K mg xc fa fd) : FnOk P w K mg base (L2.CX P w) 4 (fa 22) (fd 22) ["script", "at", "most"] (spD K xc [true, true, true] D__law_order) :=
  fn_is T.f22.F sc__law_order rfl rfl (fun cdv A outer s H E hr hu tk po =>
    (ds_cons (ds_set (ps_set (i := 3) sc__law_order.nd rfl (by first | exact .inl rfl | exact .inr rfl) (de_call (ok__law_row T) (hr.mono (by decide)) (by rfl) T.f21.g T.f21.F.kp T.f21.b tk (db_F (de_varF (pv 0)) (db_F (de_varF (pv 1)) db_nil)))))
    (ds_cons (ds_parN (ps_par (by rfl) sc__law_order.nd rfl rfl (by decide) rfl rfl (pa_cons (de_listRg (by rfl) (by rfl) T.b_list (by rfl) T.b_range (de_E (de_add (de_E de_int) (de_E (de_mod (de_E (de_ix (de_var (pv 3)) (de_E de_int))) (de_var (pv 2))))))) (pa_cons (de_lst df_nil) pa_nil)) (by rfl)))
    (ds_cons (ds_while 100 po (dt_ne hr (de_var (pv 4)) (de_NE (de_lst df_nil))) (ds_cons (ds_set (ps_set (i := 6) sc__law_order.nd rfl (by first | exact .inl rfl | exact .inr rfl) (de_mod (de_E (de_ix (de_var (pv 3)) (de_E (de_add (de_E de_int) (de_E (de_len (by rfl) T.b_len (de_var (pv 4)))))))) (de_E (de_len (by rfl) T.b_len (de_var (pv 4)))))))
    (ds_cons (ds_if (dt_eq hr (de_E (de_mod (de_E (de_ix (de_var (pv 3)) (de_E de_int))) (de_E de_int))) (de_E de_int)) (ds_one (ds_set (ps_set (i := 6) sc__law_order.nd rfl (by first | exact .inl rfl | exact .inr rfl) (de_mod (de_E (de_ix (de_var (pv 3)) (de_E (de_add (de_E de_int) (de_E (de_len (by rfl) T.b_len (de_var (pv 4)))))))) (de_E (de_min2 (by rfl) (by rfl) T.b_min (de_E de_int) (de_E (de_len (by rfl) T.b_len (de_var (pv 4)))))))))) (ds_one (ds_if (dt_eq hr (de_E (de_mod (de_E (de_ix (de_var (pv 3)) (de_E de_int))) (de_E de_int))) (de_E de_int)) (ds_one (ds_set (ps_set (i := 6) sc__law_order.nd rfl (by first | exact .inl rfl | exact .inr rfl) (de_sub (de_E (de_sub (de_E (de_len (by rfl) T.b_len (de_var (pv 4)))) (de_E de_int))) (de_E (de_mod (de_E (de_ix (de_var (pv 3)) (de_E (de_add (de_E de_int) (de_E (de_len (by rfl) T.b_len (de_var (pv 4)))))))) (de_E (de_min2 (by rfl) (by rfl) T.b_min (de_E de_int) (de_E (de_len (by rfl) T.b_len (de_var (pv 4)))))))))))) ds_nil)))
    (ds_one (ds_appPop (ps_expr (pe_bm PySem.F.plainAttrs_list PySem.F.slot_list_append PySem.F.type_list_append mt_append (pv 5) (pa_cons (pe_bm PySem.F.plainAttrs_list PySem.F.slot_list_pop PySem.F.type_list_pop mt_popAt (pv 4) (pa_cons (de_var (pv 6)) pa_nil)) pa_nil))))))))
    (ds_one (ds_ret (de_tuple (by rfl) T.b_tuple (de_var (pv 5)))))))))
theorem ok_law (T : Txt K mg xc fa fd) : FnOk P w K mg base (L2.CX P w) 15 (fa 28) (fd 28) ["script"] (spD K xc [true] D_law) :=
  fn_is T.f28.F sc_law rfl rfl (fun cdv A outer s H E hr hu tk po =>
    (ds_cons (ds_set (ps_set (i := 1) sc_law.nd rfl (by first | exact .inl rfl | exact .inr rfl) (de_call (ok__law_row T) (hr.mono (by decide)) (by rfl) T.f21.g T.f21.F.kp T.f21.b tk (db_F (de_varF (pv 0)) (db_F de_int db_nil)))))
    (ds_cons (ds_set (ps_set (i := 2) sc_law.nd rfl (by first | exact .inl rfl | exact .inr rfl) (de_call (ok__law_order T) (hr.mono (by decide)) (by rfl) T.f22.g T.f22.F.kp T.f22.b tk (db_F (de_varF (pv 0)) (db_F de_int (db_F de_int db_nil))))))
    (ds_cons (ds_set (ps_set (i := 3) sc_law.nd rfl (by first | exact .inl rfl | exact .inr rfl) (de_call (ok__law_arranged T) (hr.mono (by decide)) (by rfl) T.f25.g T.f25.F.kp T.f25.b tk (db_F (de_varF (pv 2)) (db_F (de_tup df_nil) (db_F de_int db_nil))))))
    (ds_cons (ds_set (ps_set (i := 4) sc_law.nd rfl (by first | exact .inl rfl | exact .inr rfl) (de_ix (de_var (pv 3)) (de_E (de_mod (de_E (de_mul (de_E (de_ix (de_var (pv 1)) (de_E de_int))) (de_E de_int))) (de_E (de_len (by rfl) T.b_len (de_var (pv 3)))))))))
    (ds_cons (ds_set (tAsg_F (ps_lc (own := [("some", 13)]) (i := 5) (by rfl) sc_law.nd rfl rfl (sw_true rfl rfl rfl (by decide +kernel)) (die_seq (de_var (pv 3))) (blkOk_by (own := [("some", 13)]) (N := N_law) (sc := defScope s_law) (by decide +kernel)) (fun _ _ _ _ _ => (pg_name (i := 13) sc_law.nd rfl (by first | exact .inl rfl | exact .inr rfl))) gok_1 (gw_1 (by decide)) (fun _ _ _ _ _ => (dts_one (dt_eq hr (de_E (de_len (by rfl) T.b_len (de_var (pv 13)))) (de_E (de_len (by rfl) T.b_len (de_var (pv 4))))))) (fun _ _ _ _ _ => (de_varF (pv 13))))))
    (ds_cons (ds_set (ps_set (i := 6) sc_law.nd rfl (by first | exact .inl rfl | exact .inr rfl) (de_if kF_back (dt_gt (de_E (de_mod (de_E (de_ix (de_var (pv 1)) (de_E de_int))) (de_E de_int))) (de_E de_int)) (de_ix (de_var (pv 5)) (de_E (de_mod (de_E (de_mul (de_E (de_ix (de_var (pv 1)) (de_E de_int))) (de_E de_int))) (de_E (de_len (by rfl) T.b_len (de_var (pv 5))))))) (de_ix (de_var (pv 3)) (de_E (de_mod (de_E (de_mul (de_E (de_ix (de_var (pv 1)) (de_E de_int))) (de_E de_int))) (de_E (de_len (by rfl) T.b_len (de_var (pv 3))))))))))
    (ds_cons (ds_set (ps_set (i := 7) sc_law.nd rfl (by first | exact .inl rfl | exact .inr rfl) (de_call (ok__law_led T) (hr.mono (by decide)) (by rfl) T.f27.g T.f27.F.kp T.f27.b tk (db_F de_int (db_F (de_varF (pv 2)) (db_F (de_varF (pv 4)) (db_F (de_varF (pv 6)) db_nil)))))))
    (ds_cons (ds_set (ps_set (i := 8) sc_law.nd rfl (by first | exact .inl rfl | exact .inr rfl) (de_ix (de_NE (de_lst (df_cons de_non (df_cons (de_NF (de_list (by rfl) T.b_list (de_var (pv 6)))) (df_cons (de_sl (de_var (pv 6)) (do_some (de_E de_int)) do_none) (df_cons (de_tup (df_cons (de_tup df_nil) df_nil)) df_nil)))))) (de_E (de_mod (de_E (de_ix (de_var (pv 1)) (de_E de_int))) (de_E de_int))))))
    (ds_cons (ds_if (dt_w (dw_or (dt_ne hr (de_E (de_call (ok__law_led T) (hr.mono (by decide)) (by rfl) T.f27.g T.f27.F.kp T.f27.b tk (db_F de_int (db_F (de_varF (pv 2)) (db_F (de_varF (pv 4)) (db_F (de_varF (pv 8)) db_nil)))))) (de_E de_str)) (dw_or1 (dt_ne hr (de_E (de_call (ok__law_led T) (hr.mono (by decide)) (by rfl) T.f27.g T.f27.F.kp T.f27.b tk (db_F de_int (db_F (de_varF (pv 2)) (db_F (de_varF (pv 8)) (db_F (de_varF (pv 6)) db_nil)))))) (de_E de_str))))) (ds_one (ds_ret de_bl)) ds_nil)
    (ds_cons (ds_asgT (ps_asg (de_tup (df_cons (de_NF (de_lst (df_cons (de_varF (pv 4)) df_nil))) (df_cons (de_NF (de_lst (df_cons (de_varF (pv 4)) df_nil))) (df_cons de_int df_nil)))) (pg_tup (n := 3) (by rfl) (pgs_cons (pg_name (i := 9) sc_law.nd rfl (by first | exact .inl rfl | exact .inr rfl)) (pgs_cons (pg_name (i := 10) sc_law.nd rfl (by first | exact .inl rfl | exact .inr rfl)) (pgs_cons (pg_name (i := 11) sc_law.nd rfl (by first | exact .inl rfl | exact .inr rfl)) pgs_nil))))) (gok_N (is := [9, 10, 11])))
    (ds_cons (ds_while 100 po (dt_w (dw_and (dt_ne hr (de_var (pv 9)) (de_NE (de_lst df_nil))) (dw_and1 (dt_notIn hu (de_var (pv 6)) (de_var (pv 9)))))) (ds_cons (ds_set (ps_set (i := 12) sc_law.nd rfl (by first | exact .inl rfl | exact .inr rfl) (de_NF (de_lst df_nil))))
    (ds_cons (ds_for po (by rfl) (dif_seq (de_varF (pv 9))) (pg_name (i := 13) sc_law.nd rfl (by first | exact .inl rfl | exact .inr rfl)) gok_1 (ds_one (ds_set (ps_set (i := 12) sc_law.nd rfl (by first | exact .inl rfl | exact .inr rfl) (de_add (de_var (pv 12)) (de_NE (de_lc (own := [("more", 14)]) (by rfl) sc_law.nd (die_seq (de_E (de_call (ok__law_moved T) (hr.mono (by decide)) (by rfl) T.f26.g T.f26.F.kp T.f26.b tk (db_F (de_varF (pv 2)) (db_F (de_varF (pv 13)) db_nil))))) (blkOk_by (own := [("more", 14)]) (N := N_law) (sc := defScope s_law) (by decide +kernel)) (fun _ _ _ _ _ => (pg_name (i := 14) sc_law.nd rfl (by first | exact .inl rfl | exact .inr rfl))) gok_1 (gw_1 (by decide)) (fun _ _ _ _ _ => (dts_one (dt_notIn hu (de_var (pv 14)) (de_var (pv 10))))) (fun _ _ _ _ _ => (de_varF (pv 14))))))))))
    (ds_cons (ds_set (ps_set (i := 9) sc_law.nd rfl (by first | exact .inl rfl | exact .inr rfl) (de_NF (de_sortSN (by rfl) hu (by rfl) T.b_sorted (by rfl) T.b_set (de_var (pv 12))))))
    (ds_cons (ds_set (ps_set (i := 10) sc_law.nd rfl (by first | exact .inl rfl | exact .inr rfl) (de_add (de_var (pv 10)) (de_var (pv 9)))))
    (ds_one (ds_set (ps_set (i := 11) sc_law.nd rfl (by first | exact .inl rfl | exact .inr rfl) (de_add (de_var (pv 11)) (de_E de_int))))))))))
    (ds_cons (ds_if (dt_eq hr (de_var (pv 9)) (de_NE (de_lst df_nil))) (ds_one (ds_ret (de_eq hr (de_var (pv 7)) (de_E de_str)))) ds_nil)
    (ds_cons (ds_if (dt_w (dw_or (dt_ne hr (de_E (de_ix (de_var (pv 7)) (de_E de_int))) (de_var (pv 4))) (dw_or (dt_ne hr (de_E (de_ix (de_var (pv 7)) (de_E (de_neg (de_E de_int))))) (de_var (pv 6))) (dw_or1 (dt_ne hr (de_E (de_len (by rfl) T.b_len (de_var (pv 7)))) (de_E (de_add (de_var (pv 11)) (de_E de_int)))))))) (ds_one (ds_ret de_bl)) ds_nil)
    (ds_one (ds_ret (de_eq hr (de_NE (de_lc (own := [("at", 15)]) (by rfl) sc_law.nd (di_if (dif_rng2 (by rfl) T.b_range (de_E de_int) (de_E (de_len (by rfl) T.b_len (de_var (pv 7)))))) (blkOk_by (own := [("at", 15)]) (N := N_law) (sc := defScope s_law) (by decide +kernel)) (fun _ _ _ _ _ => (pg_name (i := 15) sc_law.nd rfl (by first | exact .inl rfl | exact .inr rfl))) gok_1 (gw_1 (by decide)) (fun _ _ _ _ _ => (dts_one (dt_notIn hu (de_E (de_ix (de_var (pv 7)) (de_var (pv 15)))) (de_E (de_call (ok__law_moved T) (hr.mono (by decide)) (by rfl) T.f26.g T.f26.F.kp T.f26.b takes0 (db_F (de_varF (pv 2)) (db_F (de_ix (de_var (pv 7)) (de_E (de_sub (de_var (pv 15)) (de_E de_int)))) db_nil))))))) (fun _ _ _ _ _ => (de_varF (pv 15))))) (de_NE (de_lst df_nil)))))))))))))))))))
end
end Dl
end
section
set_option Elab.async false
set_option linter.all false
set_option autoImplicit false
namespace VS
open PySem L2

/-! ### data with a type -/
class Dt (α : Type) [DecidableEq α] where
  d : α → PyData
  eqv : ∀ a b, PyData.eqv (d a) (d b) = decide (a = b)
  lay : ∀ a, (d a).canLay0 = true
  dep : Nat
  dle : ∀ a, (d a).depth ≤ dep
structure Tu (α : Type) where
  l : List α
  deriving DecidableEq
theorem beqDec {α : Type} [BEq α] [LawfulBEq α] [DecidableEq α] (a b : α) : (a == b) = decide (a = b) := by
  rw [Bool.eq_iff_iff, beq_iff_eq, decide_eq_true_eq]
instance : Dt Int where
  d := .int
  eqv a b := by simp only [PyData.eqv]; exact beqDec a b
  lay _ := rfl
  dep := 0
  dle _ := Nat.le_refl _
abbrev eN (n : Nat) : PyData := .int (n : Int)
instance : Dt Nat where
  d := eN
  eqv a b := by
    simp only [PyData.eqv]
    rw [beqDec]
    exact decide_eq_decide.mpr Int.ofNat_inj
  lay _ := rfl
  dep := 0
  dle _ := Nat.le_refl _
instance : Dt Bool where
  d := .bool
  eqv a b := by simp only [PyData.eqv]; exact beqDec a b
  lay _ := rfl
  dep := 0
  dle _ := Nat.le_refl _
section
variable {α β : Type} [DecidableEq α] [Dt α] [DecidableEq β] [Dt β]
theorem layAll_d : ∀ xs : List α, PyData.canLayAll0 (xs.map Dt.d) = true
  | [] => by simp [PyData.canLayAll0]
  | x :: xs => by
    rw [List.map_cons, PyData.canLayAll0, Dt.lay x, layAll_d xs]
    rfl
theorem depAll_d : ∀ xs : List α, PyData.depthAll (xs.map Dt.d) ≤ Dt.dep α
  | [] => by simp [PyData.depthAll]
  | x :: xs => by
    rw [List.map_cons, PyData.depthAll]
    exact Nat.max_le.mpr ⟨Dt.dle x, depAll_d xs⟩
theorem eqvAll_d : ∀ xs ys : List α, PyData.eqvAll (xs.map Dt.d) (ys.map Dt.d) = decide (xs = ys)
  | [], [] => by simp [PyData.eqvAll]
  | [], _ :: _ => by simp [PyData.eqvAll]
  | _ :: _, [] => by simp [PyData.eqvAll]
  | x :: xs, y :: ys => by
    rw [List.map_cons, List.map_cons, PyData.eqvAll, Dt.eqv x y, eqvAll_d xs ys, ← Bool.decide_and]
    exact decide_eq_decide.mpr (by rw [List.cons.injEq])
instance : Dt (List α) where
  d xs := .list (xs.map Dt.d)
  eqv xs ys := by simp only [PyData.eqv]; exact eqvAll_d xs ys
  lay xs := by simp only [PyData.canLay0]; exact layAll_d xs
  dep := Dt.dep α + 1
  dle xs := by simp only [PyData.depth]; exact Nat.succ_le_succ (depAll_d xs)
instance : Dt (Tu α) where
  d t := .tuple (t.l.map Dt.d)
  eqv t u := by
    simp only [PyData.eqv]
    rw [eqvAll_d]
    exact decide_eq_decide.mpr ⟨fun e => by cases t; cases u; exact congrArg Tu.mk e, fun e => by rw [e]⟩
  lay t := by simp only [PyData.canLay0]; exact layAll_d t.l
  dep := Dt.dep α + 1
  dle t := by simp only [PyData.depth]; exact Nat.succ_le_succ (depAll_d t.l)
instance : Dt (α × β) where
  d p := .tuple [Dt.d p.1, Dt.d p.2]
  eqv p q := by
    simp only [PyData.eqv, PyData.eqvAll]
    rw [Dt.eqv, Dt.eqv, Bool.and_true, ← Bool.decide_and]
    exact decide_eq_decide.mpr ⟨fun e => Prod.ext e.1 e.2, fun e => by rw [e]; exact ⟨rfl, rfl⟩⟩
  lay p := by simp only [PyData.canLay0, PyData.canLayAll0, Dt.lay, Bool.and_self]
  dep := max (Dt.dep α) (Dt.dep β) + 1
  dle p := by
    simp only [PyData.depth, PyData.depthAll]
    exact Nat.succ_le_succ (Nat.max_le.mpr ⟨Nat.le_trans (Dt.dle p.1) (Nat.le_max_left _ _), Nat.max_le.mpr ⟨Nat.le_trans (Dt.dle p.2) (Nat.le_max_right _ _), Nat.zero_le _⟩⟩)
theorem shaped_d (h : Dt.dep α ≤ 64) (a : α) : SeqAt.shaped (Dt.d a) = true := by
  unfold SeqAt.shaped
  rw [Dt.lay a, decide_eq_true (Nat.le_trans (Dt.dle a) h)]
  rfl
theorem shapedL_d (h : Dt.dep α ≤ 63) (xs : List α) : SeqAt.shaped (.list (xs.map Dt.d)) = true := shaped_d (α := List α) (Nat.succ_le_succ h) xs
theorem eqD_d (h : Dt.dep α ≤ 64) (a b : α) : eqD (Dt.d a) (Dt.d b) = some (.bool (decide (a = b))) := by
  unfold eqD
  rw [if_pos ⟨shaped_d h a, shaped_d h b⟩, Dt.eqv]
theorem neD_d (h : Dt.dep α ≤ 64) (a b : α) : neD (Dt.d a) (Dt.d b) = some (.bool (!decide (a = b))) := by
  unfold neD
  rw [if_pos ⟨shaped_d h a, shaped_d h b⟩, Dt.eqv]
theorem any_d (xs : List α) (a : α) : ((xs.map Dt.d).any fun z => PyData.eqv z (Dt.d a)) = decide (a ∈ xs) := by
  rw [List.any_map, Bool.eq_iff_iff, List.any_eq_true, decide_eq_true_eq]
  constructor
  · rintro ⟨y, hy, e⟩
    have e' : PyData.eqv (Dt.d y) (Dt.d a) = true := e
    rw [Dt.eqv, decide_eq_true_eq] at e'
    exact e' ▸ hy
  · intro hx
    refine ⟨a, hx, ?_⟩
    show PyData.eqv (Dt.d a) (Dt.d a) = true
    rw [Dt.eqv, decide_eq_true_eq]
theorem inL_d (h : Dt.dep α ≤ 63) (a : α) (xs : List α) : inD (Dt.d a) (.list (xs.map Dt.d)) = some (.bool (decide (a ∈ xs))) := by
  have h1 := shaped_d (α := α) (by omega) a
  have h2 := any_d xs a
  generalize Dt.d a = z at h1 h2
  have h3 := shapedL_d h xs
  cases z <;> simp only [inD, h1, h3, and_self, if_true, h2]
theorem inU_d (h : Dt.dep α ≤ 63) (a : α) (xs : List α) : inD (Dt.d a) (.tuple (xs.map Dt.d)) = some (.bool (decide (a ∈ xs))) := by
  have h1 := shaped_d (α := α) (by omega) a
  have h2 := any_d xs a
  generalize Dt.d a = z at h1 h2
  have h3 := shapedL_d h xs
  cases z <;> simp only [inD, h1, h3, and_self, if_true, h2]
theorem notInL_d (h : Dt.dep α ≤ 63) (a : α) (xs : List α) : notInD (Dt.d a) (.list (xs.map Dt.d)) = some (.bool (!decide (a ∈ xs))) := by
  have h1 := shaped_d (α := α) (by omega) a
  have h2 := any_d xs a
  generalize Dt.d a = z at h1 h2
  have h3 := shapedL_d h xs
  cases z <;> simp only [notInD, h1, h3, and_self, if_true, h2]
theorem notInU_d (h : Dt.dep α ≤ 63) (a : α) (xs : List α) : notInD (Dt.d a) (.tuple (xs.map Dt.d)) = some (.bool (!decide (a ∈ xs))) := by
  have h1 := shaped_d (α := α) (by omega) a
  have h2 := any_d xs a
  generalize Dt.d a = z at h1 h2
  have h3 := shapedL_d h xs
  cases z <;> simp only [notInD, h1, h3, and_self, if_true, h2]
theorem idxOf_d (a : α) : ∀ xs : List α, a ∈ xs → idxOfD (Dt.d a) (xs.map Dt.d) = some (xs.idxOf a)
  | [], h => by cases h
  | x :: xs, h => by
    rw [List.map_cons, idxOfD, Dt.eqv]
    by_cases e : x = a
    · subst e
      simp
    · rw [if_neg (by simpa using e), idxOf_d a xs (by rcases List.mem_cons.mp h with q | q; exact absurd q.symm e; exact q)]
      simp [List.idxOf_cons, beq_eq_false_iff_ne.mpr e]
theorem index_d (h : Dt.dep α ≤ 63) (a : α) (xs : List α) (ha : a ∈ xs) : indexD (xs.map Dt.d) (Dt.d a) = some (eN (xs.idxOf a)) := by
  unfold indexD
  rw [if_pos ⟨shapedL_d h xs, shaped_d (by omega) a⟩, idxOf_d a xs ha]
  rfl
end

/-! ### how statements go on -/
theorem then_nx {a b : Rho → RS} {ρ ρ' : Rho} (h : a ρ = .ok (.nx ρ')) : dThen a b ρ = b ρ' := by unfold dThen; rw [h]; rfl
theorem then_rt {a b : Rho → RS} {ρ : Rho} {d : PyData} (h : a ρ = .ok (.rt d)) : dThen a b ρ = .ok (.rt d) := by unfold dThen; rw [h]; rfl
theorem then_ex {a b : Rho → RS} {ρ : Rho} {x : Exc × Rho} (h : a ρ = .ex x) : dThen a b ρ = .ex x := by unfold dThen; rw [h]; rfl
theorem stE_ok {α : Type} {g : Rho → RE α} {f : α → Rho → RS} {ρ : Rho} {d : α} (h : g ρ = .ok d) : stE g f ρ = f d ρ := by unfold stE; rw [h]
theorem stE_ex {α : Type} {g : Rho → RE α} {f : α → Rho → RS} {ρ : Rho} {x : Exc} (h : g ρ = .ex x) : stE g f ρ = .ex (x, ρ) := by unfold stE; rw [h]
theorem set_e {i : Nat} {g : Rho → RE PyData} {ρ : Rho} {d : PyData} (h : g ρ = .ok d) : dSet i g ρ = .ok (.nx (ρ.set i (some (.fr d)))) := stE_ok h
theorem setN_e {i : Nat} {g : Rho → RE PyData} {ρ : Rho} {ds : List PyData} (h : g ρ = .ok (.list ds)) : dSetN i g ρ = .ok (.nx (ρ.set i (some (.ow ds)))) := stE_ok h
theorem exp_e {g : Rho → RE PyData} {ρ : Rho} {d : PyData} (h : g ρ = .ok d) : dExp g ρ = .ok (.nx ρ) := stE_ok h
theorem ret_e {g : Rho → RE PyData} {ρ : Rho} {d : PyData} (h : g ρ = .ok d) : dRet g ρ = .ok (.rt d) := stE_ok h
theorem ifS_e {t : Rho → RE Bool} {g h : Rho → RS} {ρ : Rho} {b : Bool} (e : t ρ = .ok b) : dIfS t g h ρ = cond b (g ρ) (h ρ) := stE_ok e
theorem for_e {b : PyData → Rho → Option Rho} {gs : Rho → RE (List PyData)} {body : Rho → RS} {ρ : Rho} {ds : List PyData} (e : gs ρ = .ok ds) : dFor b gs body ρ = forD b body ds ρ := stE_ok e
theorem app_e {i : Nat} {g : Rho → RE PyData} {ρ : Rho} {ds : List PyData} {d : PyData} (hi : ρ[i]? = some (some (.ow ds))) (h : g ρ = .ok d) (hl : ds.length < lim) : dApp i g ρ = .ok (.nx (ρ.set i (some (.ow (ds ++ [d]))))) := by
  unfold dApp atOw
  rw [hi]
  exact (stE_ok h).trans (if_pos hl)
theorem ext_e {i : Nat} {g : Rho → RE PyData} {ρ : Rho} {ds es : List PyData} (hi : ρ[i]? = some (some (.ow ds))) (h : g ρ = .ok (.list es)) (hl : ds.length + es.length ≤ lim) : dExt i g ρ = .ok (.nx (ρ.set i (some (.ow (ds ++ es))))) := by
  unfold dExt atOw
  rw [hi]
  exact (stE_ok h).trans (if_pos hl)
theorem fn_rt {n : Nat} {ks : List Bool} {g : Rho → RS} {ds : List PyData} {d : PyData} (h : g (rho0 ks ds ++ List.replicate (n - ks.length) none) = .ok (.rt d)) : fnD n ks g ds = .ok d := by unfold fnD; rw [h]
theorem fn_nx {n : Nat} {ks : List Bool} {g : Rho → RS} {ds : List PyData} {ρ : Rho} (h : g (rho0 ks ds ++ List.replicate (n - ks.length) none) = .ok (.nx ρ)) : fnD n ks g ds = .ok .none := by unfold fnD; rw [h]
theorem fn_ex {n : Nat} {ks : List Bool} {g : Rho → RS} {ds : List PyData} {x : Exc} {ρ : Rho} (h : g (rho0 ks ds ++ List.replicate (n - ks.length) none) = .ex (x, ρ)) : fnD n ks g ds = .ex x := by unfold fnD; rw [h]

/-! ### loops -/
theorem for_inv {b : PyData → Rho → Option Rho} {body : Rho → RS} (I : Nat → Rho → Prop) : ∀ (ds : List PyData) (k : Nat) (ρ : Rho), I k ρ →
    (∀ i d ρ, ds[i]? = some d → I (k + i) ρ → ∃ ρ1 ρ2, b d ρ = some ρ1 ∧ body ρ1 = .ok (.nx ρ2) ∧ I (k + i + 1) ρ2) → ∃ ρ', forD b body ds ρ = .ok (.nx ρ') ∧ I (k + ds.length) ρ'
  | [], k, ρ, h0, _ => ⟨ρ, rfl, h0⟩
  | d :: ds, k, ρ, h0, hs => by
    obtain ⟨ρ1, ρ2, e1, e2, h1⟩ := hs 0 d ρ rfl h0
    obtain ⟨ρ', e', h'⟩ := for_inv I ds (k + 1) ρ2 h1 fun i d' ρ hd hi => by
      have := hs (i + 1) d' ρ (by simpa using hd) (by rw [show k + (i + 1) = k + 1 + i by omega]; exact hi)
      rw [show k + (i + 1) = k + 1 + i by omega] at this
      exact this
    refine ⟨ρ', ?_, by rw [List.length_cons, show k + (ds.length + 1) = k + 1 + ds.length by omega]; exact h'⟩
    rw [forD, e1]
    simp only [e2, R.bind_ok]
    exact e'
/-- a loop over typed things that goes through -/
theorem for_fold {α : Type} {en : α → PyData} {b : PyData → Rho → Option Rho} {body : Rho → RS} (I : List α → Rho → Prop) : ∀ (xs pre : List α) (ρ : Rho), I pre ρ →
    (∀ (p : List α) (x : α) (q : List α) (ρ : Rho), pre ++ xs = p ++ x :: q → I p ρ → ∃ ρ1 ρ2, b (en x) ρ = some ρ1 ∧ body ρ1 = .ok (.nx ρ2) ∧ I (p ++ [x]) ρ2) → ∃ ρ', forD b body (xs.map en) ρ = .ok (.nx ρ') ∧ I (pre ++ xs) ρ'
  | [], pre, ρ, h0, _ => ⟨ρ, rfl, by simpa using h0⟩
  | x :: xs, pre, ρ, h0, hs => by
    obtain ⟨ρ1, ρ2, e1, e2, h1⟩ := hs pre x xs ρ rfl h0
    obtain ⟨ρ', e', h'⟩ := for_fold I xs (pre ++ [x]) ρ2 h1 fun p y q ρ hy hi => hs p y q ρ (by rw [← hy]; simp) hi
    refine ⟨ρ', ?_, by simpa using h'⟩
    rw [List.map_cons, forD, e1]
    simp only [e2, R.bind_ok]
    exact e'
theorem lc_e {α : Type} {en : α → PyData} {b : PyData → Rho → Option Rho} {t : Rho → RE Bool} {e : Rho → RE PyData} {ρ : Rho} (p : α → Bool) (f : α → PyData) : ∀ (xs : List α),
    (∀ x ∈ xs, ∃ ρ1, b (en x) ρ = some ρ1 ∧ t ρ1 = .ok (p x) ∧ (p x = true → e ρ1 = .ok (f x))) → lcD b t e ρ (xs.map en) = .ok ((xs.filter p).map f)
  | [], _ => rfl
  | x :: xs, h => by
    obtain ⟨ρ1, e1, e2, e3⟩ := h x (by simp)
    rw [List.map_cons, lcD, e1]
    simp only [e2, noEx, R.bind_ok]
    rw [lc_e p f xs fun y hy => h y (by simp [hy])]
    cases hp : p x with
    | true => simp [noEx, e3 hp, List.filter_cons, hp]
    | false => simp [List.filter_cons, hp]
theorem dLc_e {α : Type} {en : α → PyData} {vs : List Nat} {b : PyData → Rho → Option Rho} {gs : Rho → RE (List PyData)} {t : Rho → RE Bool} {e : Rho → RE PyData} {ρ : Rho} (p : α → Bool) (f : α → PyData) (xs : List α) (hg : gs ρ = .ok (xs.map en)) (hl : xs.length ≤ lim)
    (h : ∀ x ∈ xs, ∃ ρ1, b (en x) (wipeR ρ vs) = some ρ1 ∧ t ρ1 = .ok (p x) ∧ (p x = true → e ρ1 = .ok (f x))) : dLc vs b gs t e ρ = .ok (.list ((xs.filter p).map f)) := by
  unfold dLc
  rw [hg, R.bind_ok, if_pos (by simpa using hl), lc_e p f xs h]
  rfl

/-! ### what the parts are worth -/
section
variable {ga gb gc : Rho → RE PyData} {gs : Rho → RE (List PyData)} {gt gu : Rho → RE Bool} {ρ : Rho}
@[simp] theorem dC_s {d : PyData} : dC d ρ = .ok d := rfl
@[simp] theorem dBin_s {op : PyData → PyData → Option PyData} : dBin op ga gb ρ = (ga ρ).bind fun d => (gb ρ).bind fun e => R.of (op d e) := rfl
@[simp] theorem dUn_s {op : PyData → Option PyData} : dUn op ga ρ = (ga ρ).bind fun d => R.of (op d) := rfl
@[simp] theorem dTest_ok {b : Bool} (h : ga ρ = .ok (.bool b)) : dTest ga ρ = .ok b := by unfold dTest; rw [h]; rfl
@[simp] theorem dTru_s : dTru ga ρ = (ga ρ).bind fun d => R.of (truD d) := rfl
@[simp] theorem dAnd_s : dAnd gt gu ρ = (gt ρ).bind fun b => cond b (gu ρ) (.ok false) := rfl
@[simp] theorem dOr_s : dOr gt gu ρ = (gt ρ).bind fun b => cond b (.ok true) (gu ρ) := rfl
@[simp] theorem dNot_s : dNot gt ρ = (gt ρ).bind fun b => .ok (!b) := rfl
@[simp] theorem dAndV_s : dAndV ga gb ρ = (ga ρ).bind fun d => (R.of (truD d)).bind fun b => cond b (gb ρ) (.ok d) := rfl
@[simp] theorem dOrV_s : dOrV ga gb ρ = (ga ρ).bind fun d => (R.of (truD d)).bind fun b => cond b (.ok d) (gb ρ) := rfl
@[simp] theorem dNotV_s : dNotV ga ρ = (ga ρ).bind fun d => (R.of (truD d)).bind fun b => .ok (.bool (!b)) := rfl
@[simp] theorem dIf_s : dIf gt ga gb ρ = (gt ρ).bind fun b => cond b (ga ρ) (gb ρ) := rfl
@[simp] theorem dNil_s : dNil ρ = .ok [] := rfl
@[simp] theorem dCons_s : dCons ga gs ρ = (ga ρ).bind fun d => (gs ρ).bind fun ds => .ok (d :: ds) := rfl
@[simp] theorem dTup_s : dTup gs ρ = (gs ρ).bind fun ds => .ok (.tuple ds) := rfl
@[simp] theorem dLst_s : dLst gs ρ = (gs ρ).bind fun ds => .ok (.list ds) := rfl
@[simp] theorem dCall_s {f : List PyData → RE PyData} : dCall f gs ρ = (gs ρ).bind f := rfl
@[simp] theorem dSeq_s : dSeq ga ρ = (ga ρ).bind fun d => R.of (seqD d) := rfl
@[simp] theorem seqL_s {xs : List PyData} : seqD (.list xs) = some xs := rfl
@[simp] theorem seqU_s {xs : List PyData} : seqD (.tuple xs) = some xs := rfl
@[simp] theorem truB_s {b : Bool} : truD (.bool b) = some b := rfl
@[simp] theorem truL_s {xs : List PyData} : truD (.list xs) = some (!xs.isEmpty) := rfl
@[simp] theorem truU_s {xs : List PyData} : truD (.tuple xs) = some (!xs.isEmpty) := rfl
@[simp] theorem truN_s : truD .none = some false := rfl
@[simp] theorem lenL_s {xs : List PyData} : lenD (.list xs) = some (.int xs.length) := rfl
@[simp] theorem lenU_s {xs : List PyData} : lenD (.tuple xs) = some (.int xs.length) := rfl
@[simp] theorem addI_s {i j : Int} : addD (.int i) (.int j) = some (.int (i + j)) := rfl
@[simp] theorem subI_s {i j : Int} : subD (.int i) (.int j) = some (.int (i - j)) := rfl
@[simp] theorem ltI_s {i j : Int} : ltD (.int i) (.int j) = some (.bool (decide (i < j))) := rfl
@[simp] theorem leI_s {i j : Int} : leD (.int i) (.int j) = some (.bool (decide (i ≤ j))) := rfl
@[simp] theorem gtI_s {i j : Int} : gtD (.int i) (.int j) = some (.bool (decide (j < i))) := rfl
@[simp] theorem geI_s {i j : Int} : geD (.int i) (.int j) = some (.bool (decide (j ≤ i))) := rfl
@[simp] theorem negI_s {i : Int} : negD (.int i) = some (.int (-i)) := rfl
theorem modI_s {i j : Int} (h : 0 < j) : modD (.int i) (.int j) = some (.int (i % j)) := if_pos (decide_eq_true h)
theorem fdivI_s {i j : Int} (h : 0 < j ∧ j < 1073741824) : fdivD (.int i) (.int j) = some (.int (i / j)) := if_pos (decide_eq_true h)
theorem mulI_s {i j : Int} (h : (-(2 ^ 64) < i ∧ i < 2 ^ 64) ∨ (-(2 ^ 64) < j ∧ j < 2 ^ 64)) : mulI (.int i) (.int j) = some (.int (i * j)) := if_pos (decide_eq_true h)
theorem powI_s {i j : Int} (h : 0 ≤ j ∧ j ≤ 1000000 ∧ i.natAbs < 2 ^ 64) : powD (.int i) (.int j) = some (.int (i ^ j.toNat)) := if_pos (decide_eq_true h)
@[simp] theorem min2_s {i j : Int} : min2D (.int i) (.int j) = some (.int (if j < i then j else i)) := rfl
@[simp] theorem max2_s {i j : Int} : max2D (.int i) (.int j) = some (.int (if j > i then j else i)) := rfl
@[simp] theorem eqI_s {i j : Int} : eqD (.int i) (.int j) = some (.bool (decide (i = j))) := eqD_d (α := Int) (by decide) i j
@[simp] theorem neI_s {i j : Int} : neD (.int i) (.int j) = some (.bool (!decide (i = j))) := neD_d (α := Int) (by decide) i j
@[simp] theorem eqB_s {i j : Bool} : eqD (.bool i) (.bool j) = some (.bool (decide (i = j))) := eqD_d (α := Bool) (by decide) i j
@[simp] theorem neB_s {i j : Bool} : neD (.bool i) (.bool j) = some (.bool (!decide (i = j))) := neD_d (α := Bool) (by decide) i j
@[simp] theorem tupL_s {xs : List PyData} : tupleD (.list xs) = some (.tuple xs) := rfl
@[simp] theorem tupU_s {xs : List PyData} : tupleD (.tuple xs) = some (.tuple xs) := rfl
@[simp] theorem lstL_s {xs : List PyData} : listD (.list xs) = some (.list xs) := rfl
@[simp] theorem lstU_s {xs : List PyData} : listD (.tuple xs) = some (.list xs) := rfl
end
theorem ixN_nat {n k : Nat} (h : k < n) : ixN n (k : Int) = some k := by
  unfold ixN
  simp [h] <;> omega
end VS
end
section
set_option Elab.async false
set_option linter.all false
set_option autoImplicit false
namespace VS
open PySem L2
/-- it returns, and what -/
def Rt (x : RS) (T : PyData → Prop) : Prop := ∃ d, x = .ok (.rt d) ∧ T d
section
variable {T : PyData → Prop} {a b rest : Rho → RS} {ρ ρ' : Rho} {g : Rho → RE PyData} {t : Rho → RE Bool} {i : Nat} {d : PyData} {ds es : List PyData}
theorem rt_nx (h : a ρ = .ok (.nx ρ')) (k : Rt (rest ρ') T) : Rt (dThen a rest ρ) T := by rw [then_nx h]; exact k
theorem rt_rt (h : Rt (a ρ) T) : Rt (dThen a rest ρ) T := by
  obtain ⟨d, e, q⟩ := h
  exact ⟨d, then_rt e, q⟩
theorem rt_set (h : g ρ = .ok d) (k : Rt (rest (ρ.set i (some (.fr d)))) T) : Rt (dThen (dSet i g) rest ρ) T := rt_nx (set_e h) k
theorem rt_setN (h : g ρ = .ok (.list ds)) (k : Rt (rest (ρ.set i (some (.ow ds)))) T) : Rt (dThen (dSetN i g) rest ρ) T := rt_nx (setN_e h) k
theorem rt_exp (h : g ρ = .ok d) (k : Rt (rest ρ) T) : Rt (dThen (dExp g) rest ρ) T := rt_nx (exp_e h) k
theorem rt_ret (h : g ρ = .ok d) (k : T d) : Rt (dRet g ρ) T := ⟨d, ret_e h, k⟩
theorem rt_no (h : t ρ = .ok false) (k : Rt (rest ρ) T) : Rt (dThen (dIfS t a dNx) rest ρ) T := rt_nx ((ifS_e h).trans rfl) k
theorem rt_yes (h : t ρ = .ok true) (k : Rt (a ρ) T) : Rt (dIfS t a b ρ) T := by rw [ifS_e h]; exact k
theorem rt_els (h : t ρ = .ok false) (k : Rt (b ρ) T) : Rt (dIfS t a b ρ) T := by rw [ifS_e h]; exact k
theorem rt_for {α : Type} {en : α → PyData} {tg : PyData → Rho → Option Rho} {gs : Rho → RE (List PyData)} {body : Rho → RS} (I : List α → Rho → Prop) (xs : List α) (hg : gs ρ = .ok (xs.map en)) (h0 : I [] ρ)
    (hs : ∀ (p : List α) (x : α) (q : List α) (ρ : Rho), xs = p ++ x :: q → I p ρ → ∃ ρ1 ρ2, tg (en x) ρ = some ρ1 ∧ body ρ1 = .ok (.nx ρ2) ∧ I (p ++ [x]) ρ2) (k : ∀ ρ', I xs ρ' → Rt (rest ρ') T) : Rt (dThen (dFor tg gs body) rest ρ) T := by
  obtain ⟨ρ', e, h⟩ := for_fold I xs [] ρ h0 hs
  exact rt_nx ((for_e hg).trans e) (k ρ' (by simpa using h))
theorem nx_for {α : Type} {en : α → PyData} {tg : PyData → Rho → Option Rho} {gs : Rho → RE (List PyData)} {body : Rho → RS} (I : List α → Rho → Prop) (xs : List α) (hg : gs ρ = .ok (xs.map en)) (h0 : I [] ρ)
    (hs : ∀ (p : List α) (x : α) (q : List α) (ρ : Rho), xs = p ++ x :: q → I p ρ → ∃ ρ1 ρ2, tg (en x) ρ = some ρ1 ∧ body ρ1 = .ok (.nx ρ2) ∧ I (p ++ [x]) ρ2) : ∃ ρ', dFor tg gs body ρ = .ok (.nx ρ') ∧ I xs ρ' := by
  obtain ⟨ρ', e, h⟩ := for_fold I xs [] ρ h0 hs
  exact ⟨ρ', (for_e hg).trans e, by simpa using h⟩
/-- a loop that runs while t holds, its measure going down -/
theorem while_nx {t : Rho → RE Bool} {body : Rho → RS} (I : Nat → Rho → Prop) (h0 : ∀ ρ, I 0 ρ → t ρ = .ok false) (hs : ∀ n ρ, I (n + 1) ρ → t ρ = .ok true ∧ ∃ ρ2, body ρ = .ok (.nx ρ2) ∧ I n ρ2) :
    ∀ (n m : Nat) (ρ : Rho), n < m → I n ρ → ∃ ρ', whileD t body m ρ = .ok (.nx ρ') ∧ I 0 ρ'
  | _, 0, _, h, _ => absurd h (Nat.not_lt_zero _)
  | 0, m + 1, ρ, _, hi => ⟨ρ, by rw [whileD, h0 ρ hi], hi⟩
  | n + 1, m + 1, ρ, h, hi => by
    obtain ⟨h1, ρ2, h2, h3⟩ := hs n ρ hi
    obtain ⟨ρ', e, q⟩ := while_nx I h0 hs n m ρ2 (Nat.lt_of_succ_lt_succ h) h3
    refine ⟨ρ', ?_, q⟩
    rw [whileD, h1]
    simp only [h2, R.bind_ok]
    exact e
theorem rt_fn {n : Nat} {ks : List Bool} {G : Rho → RS} (h : Rt (G (rho0 ks ds ++ List.replicate (n - ks.length) none)) T) : ∃ d, fnD n ks G ds = .ok d ∧ T d := by
  obtain ⟨d, e, q⟩ := h
  exact ⟨d, fn_rt e, q⟩
theorem rt_retV (h : ρ[i]? = some (some (.ow ds))) (k : T (.list ds)) : Rt (dRetV i ρ) T := ⟨_, by unfold dRetV; rw [h], k⟩
end
theorem eqS_e {x y : Str} {b : Bool} (hx : SeqAt.shaped (.str x) = true) (hy : SeqAt.shaped (.str y) = true) (e : (x == y) = b) : eqD (.str x) (.str y) = some (.bool b) := by
  unfold eqD
  rw [if_pos ⟨hx, hy⟩]
  simp only [PyData.eqv, e]
theorem neS_e {x y : Str} {b : Bool} (hx : SeqAt.shaped (.str x) = true) (hy : SeqAt.shaped (.str y) = true) (e : (x == y) = b) : neD (.str x) (.str y) = some (.bool (!b)) := by
  unfold neD
  rw [if_pos ⟨hx, hy⟩]
  simp only [PyData.eqv, e]
theorem rng0 (n : Nat) : rngD 0 (n : Int) = (List.range n).map eN := by
  unfold rngD
  simp
theorem small_of {i : Int} (h : -1000000 ≤ i ∧ i ≤ 1000000) : smallI i = true := by
  unfold smallI
  exact decide_eq_true h
theorem emod_nat (i : Int) (m : Nat) (h : 0 < m) : ∃ k : Nat, i % (m : Int) = (k : Int) ∧ k < m := by
  have h1 := Int.emod_nonneg i (b := (m : Int)) (by omega)
  have h2 := Int.emod_lt_of_pos i (b := (m : Int)) (by omega)
  exact ⟨(i % (m : Int)).toNat, by omega, by omega⟩
theorem setIx_e {i m : Nat} {gi g : Rho → RE PyData} {ρ : Rho} {ds : List PyData} {d : PyData} (hg : g ρ = .ok d) (hi : ρ[i]? = some (some (.ow ds))) (hgi : gi ρ = .ok (eN m)) (hm : m < ds.length) : dSetIx i gi g ρ = .ok (.nx (ρ.set i (some (.ow (ds.set m d))))) := by
  unfold dSetIx
  refine (stE_ok hg).trans ?_
  unfold atOw
  rw [hi]
  refine (stE_ok hgi).trans ?_
  show (match ixN ds.length (m : Int) with
    | some m => R.ok (Fl.nx (ρ.set i (some (.ow (ds.set m d)))))
    | none => .bad) = _
  rw [ixN_nat hm]
theorem rng1_e {g : Rho → RE PyData} {ρ : Rho} {n : Nat} (h : g ρ = .ok (eN n)) (hn : n ≤ 1000000) : dRng1 g ρ = .ok ((List.range n).map eN) := by
  unfold dRng1
  rw [h, R.bind_ok]
  show (if smallI (n : Int) = true then R.ok (rngD 0 (n : Int)) else .bad) = _
  have hs : smallI (n : Int) = true := decide_eq_true (by omega)
  rw [if_pos hs, rng0]
theorem rng2_e {g h : Rho → RE PyData} {ρ : Rho} {a b : Int} (ha : g ρ = .ok (.int a)) (hb : h ρ = .ok (.int b)) (hsa : smallI a = true) (hsb : smallI b = true) : dRng2 g h ρ = .ok (rngD a b) := by
  unfold dRng2
  rw [ha, R.bind_ok, hb, R.bind_ok]
  show (if (smallI a && smallI b) = true then R.ok (rngD a b) else .bad) = _
  rw [hsa, hsb]
  rfl
theorem at_e {α : Type} {en : α → PyData} {xs : List α} {k : Nat} {x : α} (h : xs[k]? = some x) : atI (xs.map en) (k : Int) = some (en x) := by
  unfold atI
  rw [ixN_nat (by rw [List.length_map]; exact (List.getElem?_eq_some_iff.mp h).1)]
  simp [h]
theorem idxL_e {α : Type} {en : α → PyData} {xs : List α} {k : Nat} {x : α} (h : xs[k]? = some x) : idxD (.list (xs.map en)) (eN k) = some (en x) := at_e h
theorem idxU_e {α : Type} {en : α → PyData} {xs : List α} {k : Nat} {x : α} (h : xs[k]? = some x) : idxD (.tuple (xs.map en)) (eN k) = some (en x) := at_e h
end VS
end
section
set_option Elab.async false
set_option linter.all false
set_option autoImplicit false
set_option maxRecDepth 100000
namespace Dl
open PySem L2 VS
abbrev scr (ns : List Int) : PyData := .list (ns.map .int)
theorem cell_ok (ns : List Int) (k : Nat) (hk : k ≤ 1000) : ∃ c : Int, D__law_cell [scr ns, .int (k : Int)] = .ok (.int c) := by
  by_cases h : k < ns.length
  · refine ⟨ns[k], fn_rt ?_⟩
    refine then_rt ?_
    refine (ifS_e (b := true) (dTest_ok ?_)).trans ?_
    · simp [dVar, rho0, svOf, SV.dat, h]
    · refine ret_e ?_
      simp [dVar, rho0, svOf, SV.dat, idxD, atI, ixN_nat, h]
  · refine ⟨0, fn_rt ?_⟩
    refine (then_nx (ρ' := _) ((ifS_e (b := false) (dTest_ok ?_)).trans rfl)).trans ?_
    · simp [dVar, rho0, svOf, SV.dat]
      omega
    · exact ret_e rfl
end Dl
end
section
set_option Elab.async false
set_option linter.all false
set_option autoImplicit false
set_option maxRecDepth 100000
namespace Dl
open PySem L2 VS
def RowI (ns : List Int) (at' : Nat) (p : List Nat) (ρ : Rho) : Prop := ∃ (c : Int) (r : List Nat) (st : Option SV), ρ = [some (.fr (scr ns)), some (.fr (eN at')), some (.fr (.int c)), some (.ow (r.map eN)), st] ∧ r.length = p.length ∧ p.length ≤ 60 ∧ ∀ x ∈ r, x < 1000
theorem row_ok (ns : List Int) (at' : Nat) (ha : at' ≤ 900) : ∃ d, D__law_row [scr ns, eN at'] = .ok d ∧ ∃ r : List Nat, r.length = 60 ∧ (∀ x ∈ r, x < 1000) ∧ d = .list (r.map eN) := by
  obtain ⟨c0, hc0⟩ := cell_ok ns at' (by omega)
  refine rt_fn (rt_set (d := .int c0) ?_ (rt_setN (ds := []) rfl (rt_for (α := Nat) (en := eN) (RowI ns at') (List.range 60) rfl ⟨c0, [], none, rfl, rfl, by simp, by simp⟩ ?_ ?_)))
  · simp [dVarF, rho0, svOf, SV.dat, hc0]
  · rintro p x q ρ hx ⟨c, r, st, rfl, hl, hp, hr⟩
    have hx' : p.length < 60 := by have := congrArg List.length hx; simp at this; omega
    have hx2 : x < 60 := List.mem_range.mp (by rw [hx]; simp)
    refine ⟨[some (.fr (scr ns)), some (.fr (eN at')), some (.fr (.int c)), some (.ow (r.map eN)), some (.fr (eN x))], ?_⟩
    obtain ⟨c1, hc1⟩ := cell_ok ns ((at' + 1 + x) % 20) (by omega)
    have hlim : (r.map eN).length < lim := by rw [List.length_map]; unfold lim; omega
    by_cases hb : c0 < 10 ^ 18
    · obtain ⟨k, hk, hk2⟩ := emod_nat ((c * 48271 + 131 * (x : Int) + 7 + c1) % 2147483647 / 11) 1000 (by decide)
      refine ⟨[some (.fr (scr ns)), some (.fr (eN at')), some (.fr (.int ((c * 48271 + 131 * (x : Int) + 7 + c1) % 2147483647))), some (.ow ((r ++ [k]).map eN)), some (.fr (eN x))], rfl, ?_, _, _, _, rfl, by simp [hl], by simp; omega, ?_⟩
      · refine (ifS_e (b := true) (dTest_ok ?_)).trans ?_
        · simp [dVar, dVarF, SV.dat, hc0, powI_s]
          simpa using hb
        · refine (then_nx (set_e (d := .int ((c * 48271 + 131 * (x : Int) + 7 + c1) % 2147483647)) ?_)).trans ?_
          · have hm : ((at' : Int) + 1 + (x : Int)) % 20 = ((((at' + 1 + x) % 20 : Nat)) : Int) := by omega
            simp only [dCall_s, dCons_s, dBin_s, dC_s, dNil_s, dVar, dVarF, SV.dat, R.bind_ok, List.getElem?_cons_succ, List.getElem?_cons_zero, addI_s, R.of_some, modI_s (show (0 : Int) < 20 by decide), modI_s (show (0 : Int) < 2147483647 by decide), mulI_s (show (-(2 ^ 64) < c ∧ c < 2 ^ 64) ∨ (-(2 ^ 64) < (48271 : Int) ∧ (48271 : Int) < 2 ^ 64) from .inr (by decide)), mulI_s (show (-(2 ^ 64) < (131 : Int) ∧ (131 : Int) < 2 ^ 64) ∨ (-(2 ^ 64) < (x : Int) ∧ (x : Int) < 2 ^ 64) from .inl (by decide)), hm, hc1]
          · refine (app_e (ds := r.map eN) rfl (d := eN k) ?_ hlim).trans ?_
            · simp only [dBin_s, dC_s, dVar, SV.dat, R.bind_ok, List.set_cons_succ, List.set_cons_zero, List.getElem?_cons_succ, List.getElem?_cons_zero, fdivI_s (show (0 : Int) < 11 ∧ (11 : Int) < 1073741824 by decide), R.of_some, modI_s (show (0 : Int) < 1000 by decide)]
              exact congrArg (fun z => R.ok (PyData.int z)) hk
            · simp
      · intro y hy
        rcases List.mem_append.mp hy with h | h
        · exact hr y h
        · rw [List.mem_singleton.mp h]; exact hk2
    · obtain ⟨k, hk, hk2⟩ := emod_nat c 1000 (by decide)
      refine ⟨[some (.fr (scr ns)), some (.fr (eN at')), some (.fr (.int (c / 1000))), some (.ow ((r ++ [k]).map eN)), some (.fr (eN x))], rfl, ?_, _, _, _, rfl, by simp [hl], by simp; omega, ?_⟩
      · refine (ifS_e (b := false) (dTest_ok ?_)).trans ?_
        · simp [dVar, dVarF, SV.dat, hc0, powI_s]
          simpa using hb
        · refine (then_nx (app_e (ds := r.map eN) rfl (d := eN k) ?_ hlim)).trans ?_
          · simp only [dBin_s, dC_s, dVar, SV.dat, R.bind_ok, List.getElem?_cons_succ, List.getElem?_cons_zero, R.of_some, modI_s (show (0 : Int) < 1000 by decide)]
            exact congrArg (fun z => R.ok (PyData.int z)) hk
          · refine (set_e (d := .int (c / 1000)) ?_).trans ?_
            · simp only [dBin_s, dC_s, dVar, SV.dat, R.bind_ok, List.set_cons_succ, List.set_cons_zero, List.getElem?_cons_succ, List.getElem?_cons_zero, fdivI_s (show (0 : Int) < 1000 ∧ (1000 : Int) < 1073741824 by decide), R.of_some]
            · simp
      · intro y hy
        rcases List.mem_append.mp hy with h | h
        · exact hr y h
        · rw [List.mem_singleton.mp h]; exact hk2
  · rintro ρ' ⟨c, r, st, rfl, hl, hp, hr⟩
    exact rt_retV rfl ⟨r, by simpa using hl, hr, rfl⟩
end Dl
end
section
set_option Elab.async false
set_option linter.all false
set_option autoImplicit false
set_option maxRecDepth 100000
namespace Dl
open PySem L2 VS
/-- an order of n cars -/
structure Ord (o : List Nat) : Prop where
  lo : 1 ≤ o.length
  hi : o.length ≤ 7
  pm : o.Perm (List.range o.length)
abbrev ordD (o : List Nat) : PyData := .tuple (o.map eN)
def OrdI (ns : List Int) (at' most : Nat) (r : List Nat) (n : Nat) (k : Nat) (ρ : Rho) : Prop := ∃ (lf fd : List Nat) (st : Option SV), ρ = [some (.fr (scr ns)), some (.fr (eN at')), some (.fr (eN most)), some (.fr (.list (r.map eN))), some (.ow (lf.map eN)), some (.ow (fd.map eN)), st] ∧ lf.length = k ∧ k ≤ 50 ∧ (lf ++ fd).Perm (List.range n)
theorem erase_map {α β : Type} (f : α → β) : ∀ (xs : List α) (k : Nat), (xs.map f).eraseIdx k = (xs.eraseIdx k).map f
  | [], _ => rfl
  | _ :: _, 0 => rfl
  | x :: xs, k + 1 => congrArg (f x :: ·) (erase_map f xs k)
theorem erase_perm {α : Type} : ∀ (xs : List α) (k : Nat) (h : k < xs.length), xs.Perm (xs[k] :: xs.eraseIdx k)
  | x :: xs, 0, _ => .refl _
  | x :: xs, k + 1, h => ((erase_perm xs k (Nat.lt_of_succ_lt_succ h)).cons x).trans (.swap _ _ _)
theorem pop_e {xs : List Nat} {k : Nat} (h : k < xs.length) (h2 : xs.length ≤ 1000) : ∃ y ys, popD (xs.map eN) (k : Int) = some (eN y, ys.map eN) ∧ xs.Perm (y :: ys) := by
  refine ⟨xs[k], xs.eraseIdx k, ?_, erase_perm xs k h⟩
  unfold popD
  have hs : smallI (k : Int) = true := decide_eq_true (by omega)
  rw [if_pos hs, ixN_nat (by simpa using h)]
  simp [h, erase_map]
theorem appPop_e {i j : Nat} {g : Rho → RE PyData} {ρ : Rho} {ds es es' : List PyData} {m : Int} {y : PyData} (hij : i ≠ j) (hi : ρ[i]? = some (some (.ow ds))) (hj : ρ[j]? = some (some (.ow es))) (hg : g ρ = .ok (.int m)) (hp : popD es m = some (y, es')) (hl : ds.length < lim) :
    dAppPop i j g ρ = .ok (.nx ((ρ.set j (some (.ow es'))).set i (some (.ow (ds ++ [y]))))) := by
  unfold dAppPop
  rw [if_neg hij]
  unfold atOw
  rw [hi]
  show (match ρ[j]? with | some (some (.ow es)) => _ | _ => _) = _
  rw [hj]
  refine (stE_ok hg).trans ?_
  simp only [hp]
  rw [if_pos hl]
def wBody : Rho → RS := (dThen (dSet 6 (dBin modD (dBin idxD (dVar 3) (dBin addD (dC (.int 1)) (dUn lenD (dVar 4)))) (dUn lenD (dVar 4))))
  (dThen (dIfS (dTest (dBin eqD (dBin modD (dBin idxD (dVar 3) (dC (.int 20))) (dC (.int 3))) (dC (.int 0)))) (dSet 6 (dBin modD (dBin idxD (dVar 3) (dBin addD (dC (.int 1)) (dUn lenD (dVar 4)))) (dBin min2D (dC (.int 2)) (dUn lenD (dVar 4))))) (dIfS (dTest (dBin eqD (dBin modD (dBin idxD (dVar 3) (dC (.int 20))) (dC (.int 3))) (dC (.int 1)))) (dSet 6 (dBin subD (dBin subD (dUn lenD (dVar 4)) (dC (.int 1))) (dBin modD (dBin idxD (dVar 3) (dBin addD (dC (.int 1)) (dUn lenD (dVar 4)))) (dBin min2D (dC (.int 2)) (dUn lenD (dVar 4)))))) dNx))
  (dAppPop 5 4 (dVar 6))))
theorem order_ok (ns : List Int) (at' most : Nat) (ha : at' ≤ 900) (hm : 1 ≤ most) (hm7 : most ≤ 7) : ∃ d, D__law_order [scr ns, eN at', eN most] = .ok d ∧ ∃ o : List Nat, Ord o ∧ o.length ≤ most ∧ d = ordD o := by
  obtain ⟨_, hrow, r, hr60, hr, rfl⟩ := row_ok ns at' ha
  obtain ⟨n0, hn0⟩ : ∃ n0, r[0]? = some n0 := ⟨r[0], List.getElem?_eq_getElem (by omega)⟩
  have hn : (1 + n0 % most) ≤ 7 := by have := Nat.mod_lt n0 hm; omega
  have h20 : r[20]? = some r[20] := List.getElem?_eq_getElem (by omega)
  refine rt_fn (rt_set (d := .list (r.map eN)) ?_ (rt_nx (ρ' := [some (.fr (scr ns)), some (.fr (eN at')), some (.fr (eN most)), some (.fr (.list (r.map eN))), some (.ow ((List.range (1 + n0 % most)).map eN)), some (.ow []), none]) ?_ ?_))
  · simp [dVarF, rho0, svOf, SV.dat, hrow]
  · have e1 : (dUn listRg (dBin addD (dC (.int 1)) (dBin modD (dBin idxD (dVar 3) (dC (.int 0))) (dVar 2)))) [some (.fr (scr ns)), some (.fr (eN at')), some (.fr (eN most)), some (.fr (.list (r.map eN))), none, none, none] = .ok (.list ((List.range (1 + n0 % most)).map eN)) := by
      have hx : idxD (.list (r.map eN)) (.int 0) = some (eN n0) := idxL_e (k := 0) hn0
      have e2 : (1 : Int) + (n0 : Int) % (most : Int) = ((1 + n0 % most : Nat) : Int) := by omega
      have hs : smallI ((1 + n0 % most : Nat) : Int) = true := decide_eq_true (by omega)
      simp only [dUn_s, dBin_s, dC_s, dVar, SV.dat, R.bind_ok, List.getElem?_cons_succ, List.getElem?_cons_zero, hx, R.of_some, modI_s (show (0 : Int) < (most : Int) by omega), addI_s, e2, listRg, hs, if_true, rng0]
    unfold dParN
    refine (stE_ok e1).trans ((stE_ok (d := PyData.list []) rfl).trans ?_)
    rfl
  · have h0 : ∀ ρ, OrdI ns at' most r (1 + n0 % most) 0 ρ → (dTest (dBin neD (dVar 4) (dLst dNil))) ρ = .ok false := by
      rintro ρ ⟨lf, fd, st, rfl, h1, h2, h3⟩
      have hlf : lf = [] := List.length_eq_zero_iff.mp h1
      subst hlf
      refine dTest_ok ?_
      have := neD_d (α := List Nat) (by decide) [] []
      simp only [dBin_s, dVar, SV.dat, R.bind_ok, List.getElem?_cons_succ, List.getElem?_cons_zero, dLst_s, dNil_s]
      exact congrArg R.of this
    have hs : ∀ k ρ, OrdI ns at' most r (1 + n0 % most) (k + 1) ρ → (dTest (dBin neD (dVar 4) (dLst dNil))) ρ = .ok true ∧ ∃ ρ2, wBody ρ = .ok (.nx ρ2) ∧ OrdI ns at' most r (1 + n0 % most) k ρ2 := by
      rintro k ρ ⟨lf, fd, st, rfl, h1, h2, h3⟩
      refine ⟨dTest_ok ?_, ?_⟩
      · have := neD_d (α := List Nat) (by decide) lf []
        simp only [dBin_s, dVar, SV.dat, R.bind_ok, List.getElem?_cons_succ, List.getElem?_cons_zero, dLst_s, dNil_s]
        refine (congrArg R.of this).trans ?_
        have hne : lf ≠ [] := by intro z; subst z; simp at h1
        simp [hne]
      · have hk1 : r[1 + (k + 1)]? = some r[1 + (k + 1)] := List.getElem?_eq_getElem (by omega)
        have hx : idxD (.list (r.map eN)) (.int ((1 : Int) + ((k + 1 : Nat) : Int))) = some (eN r[1 + (k + 1)]) := by
          have := idxL_e (en := eN) hk1
          rw [show (1 : Int) + ((k + 1 : Nat) : Int) = ((1 + (k + 1) : Nat) : Int) by omega]
          exact this
        have hx20 : idxD (.list (r.map eN)) (.int 20) = some (eN r[20]) := idxL_e (k := 20) h20
        have hll : (lf.map eN).length = k + 1 := by simp [h1]
        -- whatever is taken as the spot
        have fin : ∀ (sp : Nat) , sp < k + 1 → ∃ ρ2, dAppPop 5 4 (dVar 6) [some (.fr (scr ns)), some (.fr (eN at')), some (.fr (eN most)), some (.fr (.list (r.map eN))), some (.ow (lf.map eN)), some (.ow (fd.map eN)), some (.fr (eN sp))] = .ok (.nx ρ2) ∧ OrdI ns at' most r (1 + n0 % most) k ρ2 := by
          intro sp hsp
          obtain ⟨y, ys, hp, hpm⟩ := pop_e (xs := lf) (k := sp) (by omega) (by omega)
          have hlen := hpm.length_eq
          have hfl : (lf ++ fd).length = 1 + n0 % most := by simpa using h3.length_eq
          refine ⟨_, appPop_e (ds := fd.map eN) (es := lf.map eN) (by decide) rfl rfl rfl hp (by unfold lim; simp at hfl ⊢; omega), ys, fd ++ [y], some (.fr (eN sp)), by simp, by simp at hlen; omega, by omega, ?_⟩
          refine List.Perm.trans ?_ h3
          refine List.Perm.trans ?_ (hpm.symm.append_right fd)
          rw [← List.append_assoc]
          exact List.perm_append_singleton _ _
        generalize r[1 + (k + 1)] = a at hx
        generalize r[20] = z20 at hx20
        have hev : ∀ st' : Option SV, (dBin idxD (dVar 3) (dBin addD (dC (.int 1)) (dUn lenD (dVar 4)))) [some (.fr (scr ns)), some (.fr (eN at')), some (.fr (eN most)), some (.fr (.list (r.map eN))), some (.ow (lf.map eN)), some (.ow (fd.map eN)), st'] = .ok (eN a) := by
          intro st'
          simp only [dBin_s, dUn_s, dC_s, dVar, SV.dat, R.bind_ok, List.getElem?_cons_succ, List.getElem?_cons_zero, lenL_s, hll, R.of_some, addI_s, hx]
        have hz : ∀ st' : Option SV, (dBin modD (dBin idxD (dVar 3) (dC (.int 20))) (dC (.int 3))) [some (.fr (scr ns)), some (.fr (eN at')), some (.fr (eN most)), some (.fr (.list (r.map eN))), some (.ow (lf.map eN)), some (.ow (fd.map eN)), st'] = .ok (eN (z20 % 3)) := by
          intro st'
          simp only [dBin_s, dC_s, dVar, SV.dat, R.bind_ok, List.getElem?_cons_succ, List.getElem?_cons_zero, R.of_some, hx20, modI_s (show (0 : Int) < 3 by decide)]
          rfl
        have hmn : ∀ st' : Option SV, (dBin modD (dBin idxD (dVar 3) (dBin addD (dC (.int 1)) (dUn lenD (dVar 4)))) (dBin min2D (dC (.int 2)) (dUn lenD (dVar 4)))) [some (.fr (scr ns)), some (.fr (eN at')), some (.fr (eN most)), some (.fr (.list (r.map eN))), some (.ow (lf.map eN)), some (.ow (fd.map eN)), st'] = .ok (eN (a % min 2 (k + 1))) := by
          intro st'
          rw [dBin_s, hev st']
          simp only [dBin_s, dUn_s, dC_s, dVar, SV.dat, R.bind_ok, List.getElem?_cons_succ, List.getElem?_cons_zero, lenL_s, hll, R.of_some, min2_s]
          have e2 : (if ((k + 1 : Nat) : Int) < 2 then ((k + 1 : Nat) : Int) else 2) = ((min 2 (k + 1) : Nat) : Int) := by
            by_cases h : ((k + 1 : Nat) : Int) < 2
            · rw [if_pos h]; omega
            · rw [if_neg h]; omega
          rw [e2, modI_s (by omega)]
          rfl
        refine (fun (h : ∃ sp, sp < k + 1 ∧ ∀ f : Rho → RS, dThen (dIfS (dTest (dBin eqD (dBin modD (dBin idxD (dVar 3) (dC (.int 20))) (dC (.int 3))) (dC (.int 0)))) (dSet 6 (dBin modD (dBin idxD (dVar 3) (dBin addD (dC (.int 1)) (dUn lenD (dVar 4)))) (dBin min2D (dC (.int 2)) (dUn lenD (dVar 4))))) (dIfS (dTest (dBin eqD (dBin modD (dBin idxD (dVar 3) (dC (.int 20))) (dC (.int 3))) (dC (.int 1)))) (dSet 6 (dBin subD (dBin subD (dUn lenD (dVar 4)) (dC (.int 1))) (dBin modD (dBin idxD (dVar 3) (dBin addD (dC (.int 1)) (dUn lenD (dVar 4)))) (dBin min2D (dC (.int 2)) (dUn lenD (dVar 4)))))) dNx)) f [some (.fr (scr ns)), some (.fr (eN at')), some (.fr (eN most)), some (.fr (.list (r.map eN))), some (.ow (lf.map eN)), some (.ow (fd.map eN)), some (.fr (eN (a % (k + 1))))] = f [some (.fr (scr ns)), some (.fr (eN at')), some (.fr (eN most)), some (.fr (.list (r.map eN))), some (.ow (lf.map eN)), some (.ow (fd.map eN)), some (.fr (eN sp))]) => ?_) ?_
        · obtain ⟨sp, hsp, hf⟩ := h
          obtain ⟨ρ2, e2, i2⟩ := fin sp hsp
          refine ⟨ρ2, ?_, i2⟩
          unfold wBody
          refine (then_nx (set_e (d := eN (a % (k + 1))) ?_)).trans ((hf _).trans e2)
          rw [dBin_s, hev]
          simp only [dUn_s, dVar, SV.dat, R.bind_ok, List.getElem?_cons_succ, List.getElem?_cons_zero, lenL_s, hll, R.of_some]
          rw [modI_s (by omega)]
          rfl
        · by_cases hz0 : z20 % 3 = 0
          · refine ⟨a % min 2 (k + 1), Nat.lt_of_lt_of_le (Nat.mod_lt _ (by omega)) (by omega), fun f => ?_⟩
            refine then_nx ((ifS_e (b := true) (dTest_ok ?_)).trans (set_e (hmn _)))
            rw [dBin_s, hz, hz0]
            simp
          · by_cases hz1 : z20 % 3 = 1
            · have hlt : a % min 2 (k + 1) < min 2 (k + 1) := Nat.mod_lt _ (by omega)
              refine ⟨k + 1 - 1 - a % min 2 (k + 1), by omega, fun f => ?_⟩
              refine then_nx ((ifS_e (b := false) (dTest_ok ?_)).trans ((ifS_e (b := true) (dTest_ok ?_)).trans (set_e ?_)))
              · rw [dBin_s, hz, hz1]
                simp
              · rw [dBin_s, hz, hz1]
                simp
              · rw [dBin_s, hmn]
                simp only [dBin_s, dUn_s, dC_s, dVar, SV.dat, R.bind_ok, List.getElem?_cons_succ, List.getElem?_cons_zero, lenL_s, hll, R.of_some, subI_s]
                exact congrArg (fun z => R.ok (PyData.int z)) (by omega)
            · refine ⟨a % (k + 1), Nat.mod_lt _ (by omega), fun f => ?_⟩
              refine then_nx ((ifS_e (b := false) (dTest_ok ?_)).trans ((ifS_e (b := false) (dTest_ok ?_)).trans rfl))
              · rw [dBin_s, hz]
                simp
                omega
              · rw [dBin_s, hz]
                simp
                omega
    obtain ⟨ρ', e, lf, fd, st, rfl, h1, h2, h3⟩ := while_nx (body := wBody) (t := (dTest (dBin neD (dVar 4) (dLst dNil)))) (OrdI ns at' most r (1 + n0 % most)) h0 hs (1 + n0 % most) 100 [some (.fr (scr ns)), some (.fr (eN at')), some (.fr (eN most)), some (.fr (.list (r.map eN))), some (.ow ((List.range (1 + n0 % most)).map eN)), some (.ow []), none] (by omega) ⟨List.range (1 + n0 % most), [], none, rfl, by simp, by omega, by simp⟩
    refine rt_nx e (rt_ret (d := ordD fd) ?_ ?_)
    · simp [dVar, SV.dat]
    · have hlf : lf = [] := List.length_eq_zero_iff.mp h1
      subst hlf
      have hp : fd.Perm (List.range (1 + n0 % most)) := by simpa using h3
      have hl : fd.length = 1 + n0 % most := by simpa using hp.length_eq
      have := Nat.mod_lt n0 hm
      exact ⟨fd, ⟨by omega, by omega, by rw [hl]; exact hp⟩, by omega, rfl⟩
end Dl
end
section
set_option Elab.async false
set_option linter.all false
set_option autoImplicit false
set_option maxRecDepth 100000
namespace Dl
open PySem L2 VS
theorem Ord.lt {o : List Nat} (h : Ord o) {x : Nat} : x ∈ o ↔ x < o.length := by rw [h.pm.mem_iff, List.mem_range]
theorem Ord.nd {o : List Nat} (h : Ord o) : o.Nodup := h.pm.nodup_iff.mpr List.nodup_range
theorem in_range_e (v lo hi : Int) : D_in_range [.int v, .int lo, .int hi] = .ok (.bool (decide (lo ≤ v) && decide (v ≤ hi))) := by
  refine fn_rt (ret_e ?_)
  have h1 : isiD "int" (.int v) = some (.bool true) := by simp [isiD, dTy]
  have h2 : isiD "bool" (.int v) = some (.bool false) := by simp [isiD, dTy]
  simp only [rho0, svOf, cond_true, List.cons_append, List.nil_append, dAndV_s, dNotV_s, dUn_s, dVar, SV.dat, R.bind_ok, List.getElem?_cons_succ, List.getElem?_cons_zero, h1, h2, R.of_some, truB_s, Bool.not_false, dChain, leI_s]
  by_cases h : lo ≤ v
  · simp [h]
  · simp [h]
theorem lenSet_e {xs : List Nat} (h : xs.Nodup) (hl : xs.length ≤ 1000) : lenSetD (.tuple (xs.map eN)) = some (eN xs.length) := by
  have h1 : ∀ ys : List Nat, intsOf (ys.map eN) = some (ys.map fun (n : Nat) => (n : Int)) := by
    intro ys
    induction ys with
    | nil => rfl
    | cons y ys ih => simp only [List.map_cons, intsOf, ih]; rfl
  have h2 : ∀ ys : List Int, ys.Nodup → ddup ys = ys := by
    intro ys hy
    induction ys with
    | nil => rfl
    | cons y ys ih =>
      have hh := List.nodup_cons.mp hy
      rw [ddup, if_neg hh.1, ih hh.2]
  have h3 : (xs.map fun (n : Nat) => (n : Int)).Nodup := List.Pairwise.map _ (fun a b hab z => hab (Int.ofNat_inj.mp z)) h
  simp only [lenSetD, h1, Option.bind_some]
  rw [h2 _ h3, if_pos (by simpa using hl)]
  simp
theorem is_order_e {o : List Nat} (h : Ord o) : D_is_order [ordD o] = .ok (.bool true) := by
  have hlo := h.lo
  have hhi := h.hi
  have h1 : isiD "tuple" (ordD o) = some (.bool true) := by simp [isiD, dTy]
  refine fn_rt ((then_nx (ρ' := [some (.fr (ordD o)), none]) ((ifS_e (b := false) ?_).trans rfl)).trans ((then_nx (ρ' := [some (.fr (ordD o)), none]) ((ifS_e (b := false) ?_).trans rfl)).trans (ret_e ?_)))
  · have ht : (dTest (dChain leD leD (dC (.int 1)) (dUn lenD (dVar 0)) (dC (.int 7)))) [some (.fr (ordD o)), none] = .ok true := by
      refine dTest_ok ?_
      have e1 : decide ((1 : Int) ≤ (o.length : Int)) = true := decide_eq_true (by omega)
      have e2 : decide ((o.length : Int) ≤ 7) = true := decide_eq_true (by omega)
      simp only [dChain, dC_s, dUn_s, dVar, SV.dat, R.bind_ok, List.getElem?_cons_zero, lenU_s, List.length_map, R.of_some, leI_s, e1, e2]
    have ht' : (dTest (dChain leD leD (dC (.int 1)) (dUn lenD (dVar 0)) (dC (.int 7)))) (rho0 [true] [ordD o] ++ List.replicate (2 - [true].length) none) = .ok true := ht
    simp only [dOr_s, dNot_s, ht', dTru_s, dUn_s]
    simp only [rho0, svOf, cond_true, List.cons_append, List.nil_append, dVar, SV.dat, R.bind_ok, List.getElem?_cons_zero, h1, R.of_some, truB_s, Bool.not_true, cond_false]
  · have hlc := dLc_e (en := eN) (vs := [1]) (b := dTg1 1) (gs := dSeq (dVar 0)) (t := dNot (dTru (dCall D_in_range (dCons (dVarF 1) (dCons (dC (.int 0)) (dCons (dBin subD (dUn lenD (dVar 0)) (dC (.int 1))) dNil)))))) (e := dVarF 1) (ρ := [some (.fr (ordD o)), none]) (fun _ => false) eN o rfl (by unfold lim; omega) (fun x hx => by
      have hx' := h.lt.mp hx
      refine ⟨[some (.fr (ordD o)), some (.fr (eN x))], rfl, ?_, fun z => by cases z⟩
      have e1 : (decide ((0 : Int) ≤ (x : Int)) && decide ((x : Int) ≤ (o.length : Int) - 1)) = true := by
        rw [Bool.and_eq_true]; exact ⟨decide_eq_true (by omega), decide_eq_true (by omega)⟩
      simp only [dNot_s, dTru_s, dCall_s, dCons_s, dNil_s, dC_s, dBin_s, dUn_s, dVar, dVarF, SV.dat, R.bind_ok, List.getElem?_cons_succ, List.getElem?_cons_zero, lenU_s, List.length_map, R.of_some, subI_s, in_range_e, e1, truB_s, Bool.not_true])
    rw [dTru_s, hlc]
    simp
  · simp only [dBin_s, dUn_s, dVar, SV.dat, R.bind_ok, List.getElem?_cons_zero, lenSet_e h.nd (by omega), lenU_s, List.length_map, R.of_some, eqI_s, decide_true]
theorem check_order_e {o : List Nat} (h : Ord o) : D_check_order [ordD o] = .ok .none := by
  refine fn_nx (ρ := [some (.fr (ordD o))]) ((ifS_e (b := false) ?_).trans rfl)
  simp only [rho0, svOf, cond_true, dNot_s, dTru_s, dCall_s, dCons_s, dNil_s, dVarF, List.cons_append, List.getElem?_cons_zero, R.bind_ok, is_order_e h, R.of_some, truB_s, Bool.not_true]
def inw (o : List Nat) (a b : Nat) : Bool := decide (a < b) && decide (o.idxOf a < o.idxOf b)
theorem index_e {o : List Nat} {x : Nat} (h : x ∈ o) : indexD (o.map eN) (eN x) = some (eN (o.idxOf x)) := index_d (α := Nat) (by decide) x o h
theorem blocks_e {o : List Nat} {a b : Nat} (ha : a ∈ o) (hb : b ∈ o) : D_blocks [ordD o, eN a, eN b] = .ok (.bool (inw o a b)) := by
  refine fn_rt (ret_e ?_)
  simp only [rho0, svOf, cond_true, List.cons_append, List.nil_append, dAndV_s, dBin_s, dVar, SV.dat, R.bind_ok, List.getElem?_cons_succ, List.getElem?_cons_zero, ltI_s, R.of_some, truB_s, dIndexU, onTup, index_e ha, index_e hb]
  unfold inw
  by_cases h : a < b
  · simp [h]
  · simp [h]
end Dl
end
section
set_option Elab.async false
set_option linter.all false
set_option autoImplicit false
set_option maxRecDepth 100000
namespace Dl
open PySem L2 VS
theorem law_in_way_e {o : List Nat} {a b : Nat} (ha : a ∈ o) (hb : b ∈ o) : D__law_in_way [ordD o, eN a, eN b] = .ok (.bool (inw o a b)) := blocks_e ha hb
end Dl
end
section
set_option Elab.async false
set_option linter.all false
set_option autoImplicit false
set_option maxRecDepth 100000
namespace Dl
open PySem L2 VS
/-- a tuple of numbers -/
abbrev eT (s : List Nat) : PyData := .tuple (s.map eN)
theorem alike_nat : ∀ xs ys : List Nat, PySem.W.alikeAll (xs.map eN) (ys.map eN) = true
  | [], _ => by simp [PySem.W.alikeAll]
  | _ :: _, [] => by simp [PySem.W.alikeAll]
  | x :: xs, y :: ys => by simp [PySem.W.alikeAll, PySem.W.alike, alike_nat xs ys]
theorem alike_tup (xs ys : List Nat) : PySem.W.alike (eT xs) (eT ys) = true := by
  simp only [PySem.W.alike]; exact alike_nat xs ys
theorem depth_tup (xs : List Nat) : (eT xs).depth ≤ 1 := (Dt.dle (α := Tu Nat) ⟨xs⟩)
theorem sortB_tups {x : List (List Nat)} (h0 : ∃ y, x = [] :: y) (hl : x.length ≤ lim) : sortB (x.map eT) = true := by
  unfold sortB
  simp only [Bool.and_eq_true, Bool.or_eq_true]
  refine ⟨⟨⟨?_, ?_⟩, ?_⟩, .inr ?_⟩
  · simp only [List.all_eq_true]
    intro d hd e he
    obtain ⟨p, _, rfl⟩ := List.mem_map.mp hd
    obtain ⟨q, _, rfl⟩ := List.mem_map.mp he
    exact alike_tup p q
  · simp only [List.all_eq_true]
    intro d hd
    obtain ⟨p, _, rfl⟩ := List.mem_map.mp hd
    have := depth_tup p
    exact decide_eq_true (by omega)
  · exact decide_eq_true (by simpa using hl)
  · obtain ⟨y, rfl⟩ := h0
    show (List.all (([] :: y).map eT) fun d => match d with | .tuple _ => true | _ => false) = true
    simp only [List.all_eq_true]
    intro d hd
    obtain ⟨p, _, rfl⟩ := List.mem_map.mp hd
    rfl
theorem sortB_nats {x : List Nat} (hl : x.length ≤ lim) : sortB (x.map eN) = true := by
  unfold sortB
  simp only [Bool.and_eq_true, Bool.or_eq_true]
  refine ⟨⟨⟨?_, ?_⟩, ?_⟩, .inl (.inr ?_)⟩
  · simp only [List.all_eq_true]
    intro d hd e he
    obtain ⟨p, _, rfl⟩ := List.mem_map.mp hd
    obtain ⟨q, _, rfl⟩ := List.mem_map.mp he
    simp [PySem.W.alike]
  · simp only [List.all_eq_true]
    intro d hd
    obtain ⟨p, _, rfl⟩ := List.mem_map.mp hd
    rfl
  · exact decide_eq_true (by simpa using hl)
  · simp only [List.all_eq_true]
    intro d hd
    obtain ⟨p, _, rfl⟩ := List.mem_map.mp hd
    rfl
def srt (x : List Nat) : List Nat := x.mergeSort fun a b => decide (a ≤ b)
theorem sortedL_nats (x : List Nat) : sortedL (x.map eN) = (srt x).map eN := by
  unfold sortedL srt
  refine (List.map_mergeSort fun a _ b _ => ?_).symm
  show decide (a ≤ b) = !PySem.W.dataLt (eN b) (eN a)
  rw [PySem.W.dataLt_int]
  by_cases h : a ≤ b
  · rw [decide_eq_true h, decide_eq_false (by omega)]; rfl
  · rw [decide_eq_false h, decide_eq_true (by omega)]; rfl
theorem sortL_e {x : List Nat} (hl : x.length ≤ lim) : sortD (.list (x.map eN)) = some (.list ((srt x).map eN)) := by
  show (if sortB (x.map eN) = true then some (PyData.list (sortedL (x.map eN))) else none) = _
  rw [if_pos (sortB_nats hl), sortedL_nats]
theorem sortU_e {x : List Nat} (hl : x.length ≤ lim) : sortD (.tuple (x.map eN)) = some (.list ((srt x).map eN)) := by
  show (if sortB (x.map eN) = true then some (PyData.list (sortedL (x.map eN))) else none) = _
  rw [if_pos (sortB_nats hl), sortedL_nats]
theorem srt_perm (x : List Nat) : (srt x).Perm x := List.mergeSort_perm _ _
theorem srt_pw (x : List Nat) : (srt x).Pairwise (· ≤ ·) := by
  have := List.pairwise_mergeSort (le := fun a b : Nat => decide (a ≤ b)) (fun a b c h1 h2 => decide_eq_true (by have := of_decide_eq_true h1; have := of_decide_eq_true h2; omega)) (fun a b => by
    rw [Bool.or_eq_true]
    rcases Nat.le_total a b with h | h
    · exact .inl (decide_eq_true h)
    · exact .inr (decide_eq_true h)) x
  exact this.imp fun h => of_decide_eq_true h
/-- the sorted list is the one that is sorted -/
theorem srt_eq {x y : List Nat} (hp : y.Perm x) (hy : y.Pairwise (· ≤ ·)) : srt x = y :=
  ((srt_perm x).trans hp.symm).eq_of_pairwise (fun a b _ _ h1 h2 => Nat.le_antisymm h1 h2) (srt_pw x) hy
/-! ### all choices of cars -/
def raw : Nat → List (List Nat)
  | 0 => [[]]
  | n + 1 => raw n ++ (raw n).map fun s => s ++ [n]
theorem raw_head : ∀ n, ∃ y, raw n = [] :: y
  | 0 => ⟨[], rfl⟩
  | n + 1 => by
    obtain ⟨y, e⟩ := raw_head n
    exact ⟨y ++ (raw n).map fun s => s ++ [n], by rw [raw, e]; rfl⟩
theorem raw_len : ∀ n, (raw n).length = 2 ^ n
  | 0 => rfl
  | n + 1 => by rw [raw, List.length_append, List.length_map, raw_len n, Nat.pow_succ]; omega
theorem raw_le {n : Nat} (h : n ≤ 7) : (raw n).length ≤ 128 := by
  rw [raw_len]
  exact Nat.pow_le_pow_right (by decide) h
theorem raw_mem_len : ∀ {n : Nat} {s : List Nat}, s ∈ raw n → s.length ≤ n
  | 0, s, h => by rw [raw, List.mem_singleton] at h; subst h; exact Nat.le_refl _
  | n + 1, s, h => by
    rw [raw, List.mem_append, List.mem_map] at h
    rcases h with h | ⟨t, h, rfl⟩
    · exact Nat.le_succ_of_le (raw_mem_len h)
    · rw [List.length_append]
      exact Nat.succ_le_succ (raw_mem_len h)
theorem filt_t {α : Type} (l : List α) : l.filter (fun _ => true) = l := List.filter_eq_self.mpr fun _ _ => rfl
theorem mem_raw : ∀ {n : Nat} {s : List Nat}, s ∈ raw n ↔ s.Pairwise (· < ·) ∧ ∀ x ∈ s, x < n
  | 0, s => by
    simp only [raw, List.mem_singleton]
    constructor
    · rintro rfl; simp
    · rintro ⟨_, h⟩
      cases s with
      | nil => rfl
      | cons x s => exact absurd (h x (by simp)) (Nat.not_lt_zero _)
  | n + 1, s => by
    rw [raw, List.mem_append, List.mem_map]
    constructor
    · rintro (h | ⟨t, h, rfl⟩)
      · obtain ⟨h1, h2⟩ := mem_raw.mp h
        exact ⟨h1, fun x hx => Nat.lt_succ_of_lt (h2 x hx)⟩
      · obtain ⟨h1, h2⟩ := mem_raw.mp h
        refine ⟨List.pairwise_append.mpr ⟨h1, by simp, fun a ha b hb => ?_⟩, fun x hx => ?_⟩
        · rw [List.mem_singleton.mp hb]; exact h2 a ha
        · rcases List.mem_append.mp hx with q | q
          · exact Nat.lt_succ_of_lt (h2 x q)
          · rw [List.mem_singleton.mp q]; exact Nat.lt_succ_self n
    · rintro ⟨h1, h2⟩
      by_cases hn : n ∈ s
      · right
        refine ⟨s.dropLast, ?_, ?_⟩
        · have hne : s ≠ [] := List.ne_nil_of_mem hn
          have e := List.dropLast_concat_getLast hne
          have hl : s.getLast hne = n := by
            rw [← e] at hn h1
            rcases List.mem_append.mp hn with q | q
            · have := (List.pairwise_append.mp h1).2.2 n q (s.getLast hne) (by simp)
              have := h2 _ (List.getLast_mem hne)
              omega
            · exact (List.mem_singleton.mp q).symm
          rw [← e] at h1
          have h3 := List.pairwise_append.mp h1
          refine mem_raw.mpr ⟨h3.1, fun x hx => ?_⟩
          have := h3.2.2 x hx _ (List.mem_singleton.mpr rfl)
          omega
        · have hne : s ≠ [] := List.ne_nil_of_mem hn
          have e := List.dropLast_concat_getLast hne
          have hl : s.getLast hne = n := by
            rw [← e] at hn h1
            rcases List.mem_append.mp hn with q | q
            · have := (List.pairwise_append.mp h1).2.2 n q (s.getLast hne) (by simp)
              have := h2 _ (List.getLast_mem hne)
              omega
            · exact (List.mem_singleton.mp q).symm
          rw [hl] at e
          exact e
      · left
        refine mem_raw.mpr ⟨h1, fun x hx => ?_⟩
        have := h2 x hx
        have : x ≠ n := fun z => hn (z ▸ hx)
        omega
def chs (n : Nat) : List (List Nat) := (raw n).mergeSort fun p q => PySem.W.dataLe false id (eT p) (eT q)
theorem chs_perm (n : Nat) : (chs n).Perm (raw n) := List.mergeSort_perm _ _
theorem mem_chs {n : Nat} {s : List Nat} : s ∈ chs n ↔ s.Pairwise (· < ·) ∧ ∀ x ∈ s, x < n := by rw [(chs_perm n).mem_iff, mem_raw]
theorem chs_mem_len {n : Nat} {s : List Nat} (h : s ∈ chs n) : s.length ≤ n := raw_mem_len ((chs_perm n).mem_iff.mp h)
theorem chs_len {n : Nat} (h : n ≤ 7) : (chs n).length ≤ 128 := by rw [(chs_perm n).length_eq]; exact raw_le h
theorem sort_raw {n : Nat} (h : n ≤ 7) : sortD (.list ((raw n).map eT)) = some (.list ((chs n).map eT)) := by
  show (if sortB ((raw n).map eT) = true then some (PyData.list (sortedL ((raw n).map eT))) else none) = _
  rw [if_pos (sortB_tups (raw_head n) (Nat.le_trans (raw_le h) (by decide)))]
  unfold sortedL chs
  refine congrArg (fun z => some (PyData.list z)) (List.map_mergeSort (r := fun p q => PySem.W.dataLe false id (eT p) (eT q)) (s := PySem.W.dataLe false id) (f := eT) fun a _ b _ => rfl).symm
theorem range_at {n : Nat} {p q : List Nat} {x : Nat} (h : List.range n = p ++ x :: q) : x = p.length ∧ x < n := by
  have h1 : (List.range n)[p.length]? = some x := by rw [h]; simp
  obtain ⟨hl, e⟩ := List.getElem?_eq_some_iff.mp h1
  rw [List.getElem_range] at e
  simp at hl
  exact ⟨e.symm, by omega⟩
end Dl
end
section
set_option Elab.async false
set_option linter.all false
set_option autoImplicit false
set_option maxRecDepth 100000
namespace Dl
open PySem L2 VS
@[simp] theorem addU_s {x y : List PyData} (h : x.length + y.length ≤ lim) : addD (.tuple x) (.tuple y) = some (.tuple (x ++ y)) := if_pos h
@[simp] theorem addL_s {x y : List PyData} (h : x.length + y.length ≤ lim) : addD (.list x) (.list y) = some (.list (x ++ y)) := if_pos h
abbrev eQ (q : List Nat × Nat) : PyData := .tuple [eN q.2, eT q.1]
theorem enum_e : ∀ (l : List (List Nat)) (n : Nat), enumL n (l.map eT) = (l.zipIdx n).map eQ
  | [], _ => rfl
  | x :: l, n => by
    rw [List.map_cons, enumL, enum_e l (n + 1), List.zipIdx_cons, List.map_cons]
theorem cut_drop {α : Type} (l : List α) (k : Nat) : cutD l (some ((k : Int) + 1)) none = l.drop (k + 1) := by
  unfold cutD
  have e : HT.sIx l.length 0 (some ((k : Int) + 1)) = min (k + 1) l.length := HT.sIx_nat l.length 0 (k + 1)
  rw [e, HT.sIx_none]
  by_cases h : k + 1 ≤ l.length
  · rw [Nat.min_eq_left h, List.take_of_length_le (by simp)]
  · rw [Nat.min_eq_right (by omega), Nat.sub_self, List.take_zero, List.drop_eq_nil_of_le (by omega)]
abbrev eI (q : Nat × Nat) : PyData := .tuple [eN q.2, eN q.1]
theorem enumN_e : ∀ (l : List Nat) (n : Nat), enumL n (l.map eN) = (l.zipIdx n).map eI
  | [], _ => rfl
  | x :: l, n => by
    rw [List.map_cons, enumL, enumN_e l (n + 1), List.zipIdx_cons, List.map_cons]
section
variable {ga gb : Rho → RE PyData} {t u : Rho → RE Bool} {ρ : Rho} {d : PyData}
theorem ne_same (h1 : ga ρ = .ok d) (h2 : gb ρ = .ok d) (hs : SeqAt.shaped d = true) : dTest (dBin neD ga gb) ρ = .ok false := by
  refine dTest_ok ?_
  rw [dBin_s, h1, R.bind_ok, h2, R.bind_ok]
  unfold neD
  rw [if_pos ⟨hs, hs⟩, SeqAt.eqv_refl d (SeqAt.canLay_of_shaped hs)]
  rfl
theorem eq_same (h1 : ga ρ = .ok d) (h2 : gb ρ = .ok d) (hs : SeqAt.shaped d = true) : dBin eqD ga gb ρ = .ok (.bool true) := by
  rw [dBin_s, h1, R.bind_ok, h2, R.bind_ok]
  unfold eqD
  rw [if_pos ⟨hs, hs⟩, SeqAt.eqv_refl d (SeqAt.canLay_of_shaped hs)]
  rfl
theorem or_ff (h1 : t ρ = .ok false) (h2 : u ρ = .ok false) : dOr t u ρ = .ok false := by
  rw [dOr_s, h1, R.bind_ok, cond_false, h2]
end
theorem bin_e {op : PyData → PyData → Option PyData} {ga gb : Rho → RE PyData} {ρ : Rho} {d e z : PyData} (h1 : ga ρ = .ok d) (h2 : gb ρ = .ok e) (h3 : op d e = some z) : dBin op ga gb ρ = .ok z := by
  rw [dBin_s, h1, R.bind_ok, h2, R.bind_ok, h3]; rfl
theorem un_e {op : PyData → Option PyData} {ga : Rho → RE PyData} {ρ : Rho} {d z : PyData} (h1 : ga ρ = .ok d) (h3 : op d = some z) : dUn op ga ρ = .ok z := by
  rw [dUn_s, h1, R.bind_ok, h3]; rfl
theorem shI (i : Int) : SeqAt.shaped (.int i) = true := shaped_d (α := Int) (by decide) i
theorem for_find {α : Type} {en : α → PyData} {b : PyData → Rho → Option Rho} {body : Rho → RS} (bad : α → Bool) (dr : PyData) (I : Rho → Prop) : ∀ (xs : List α) (ρ : Rho), I ρ →
    (∀ x ∈ xs, ∀ ρ, I ρ → ∃ ρ1, b (en x) ρ = some ρ1 ∧ (bad x = true → body ρ1 = .ok (.rt dr)) ∧ (bad x = false → ∃ ρ2, body ρ1 = .ok (.nx ρ2) ∧ I ρ2)) →
    (xs.any bad = true ∧ forD b body (xs.map en) ρ = .ok (.rt dr)) ∨ (xs.any bad = false ∧ ∃ ρ', forD b body (xs.map en) ρ = .ok (.nx ρ') ∧ I ρ')
  | [], ρ, h0, _ => .inr ⟨rfl, ρ, rfl, h0⟩
  | x :: xs, ρ, h0, hs => by
    obtain ⟨ρ1, e1, g1, g2⟩ := hs x (by simp) ρ h0
    rw [List.map_cons, forD, e1]
    cases hb : bad x with
    | true =>
      refine .inl ⟨by simp [hb], ?_⟩
      simp only [g1 hb, R.bind_ok]
    | false =>
      obtain ⟨ρ2, e2, i2⟩ := g2 hb
      simp only [e2, R.bind_ok]
      rcases for_find bad dr I xs ρ2 i2 fun y hy => hs y (by simp [hy]) with ⟨h1, h2⟩ | ⟨h1, h2⟩
      · exact .inl ⟨by simp [hb, h1], h2⟩
      · exact .inr ⟨by simp [hb, h1], h2⟩
def freeB (o l : List Nat) : Bool := !l.any fun a => l.any fun b => inw o a b
theorem law_free_g {o l : List Nat} (hl : ∀ x ∈ l, x ∈ o) (hz : l.length ≤ 1000) : D__law_free [ordD o, eT l] = .ok (.bool (freeB o l)) := by
  have step : ∀ x ∈ l, ∀ ρ, (∃ s2, ρ = ([some (.fr (ordD o)), some (.fr (eT l)), s2, none] : Rho)) → ∃ ρ1, dTg1 2 (eN x) ρ = some ρ1 ∧ ((l.any fun b => inw o x b) = true → (dIfS (dTest (dBin neD (dLc [3] (dTg1 3) (dSeq (dVar 1)) (dTru (dCall D__law_in_way (dCons (dVarF 0) (dCons (dVarF 2) (dCons (dVarF 3) dNil))))) (dVarF 3)) (dLst dNil))) (dRet (dC (.bool false))) dNx) ρ1 = .ok (.rt (.bool false))) ∧ ((l.any fun b => inw o x b) = false → ∃ ρ2, (dIfS (dTest (dBin neD (dLc [3] (dTg1 3) (dSeq (dVar 1)) (dTru (dCall D__law_in_way (dCons (dVarF 0) (dCons (dVarF 2) (dCons (dVarF 3) dNil))))) (dVarF 3)) (dLst dNil))) (dRet (dC (.bool false))) dNx) ρ1 = .ok (.nx ρ2) ∧ ∃ s2, ρ2 = ([some (.fr (ordD o)), some (.fr (eT l)), s2, none] : Rho)) := by
    rintro c hc ρ ⟨s2, rfl⟩
    have hlc := dLc_e (en := eN) (vs := [3]) (b := dTg1 3) (gs := dSeq (dVar 1)) (t := dTru (dCall D__law_in_way (dCons (dVarF 0) (dCons (dVarF 2) (dCons (dVarF 3) dNil))))) (e := dVarF 3) (ρ := [some (.fr (ordD o)), some (.fr (eT l)), some (.fr (eN c)), none]) (fun x => inw o c x) eN l rfl (by unfold lim; omega) (fun x hx => by
      refine ⟨[some (.fr (ordD o)), some (.fr (eT l)), some (.fr (eN c)), some (.fr (eN x))], rfl, ?_, fun z => rfl⟩
      simp only [dTru_s, dCall_s, dCons_s, dNil_s, dVarF, R.bind_ok, List.getElem?_cons_succ, List.getElem?_cons_zero, law_in_way_e (hl c hc) (hl x hx), R.of_some, truB_s])
    have ht : (dTest (dBin neD (dLc [3] (dTg1 3) (dSeq (dVar 1)) (dTru (dCall D__law_in_way (dCons (dVarF 0) (dCons (dVarF 2) (dCons (dVarF 3) dNil))))) (dVarF 3)) (dLst dNil))) [some (.fr (ordD o)), some (.fr (eT l)), some (.fr (eN c)), none] = .ok (l.any fun b => inw o c b) := by
      refine dTest_ok ?_
      have := neD_d (α := List Nat) (by decide) (l.filter fun x => inw o c x) []
      rw [dBin_s, hlc]
      refine (congrArg R.of this).trans ?_
      refine congrArg (fun z => R.ok (PyData.bool z)) ?_
      rw [Bool.eq_iff_iff]
      simp only [Bool.not_eq_true', decide_eq_false_iff_not, List.filter_eq_nil_iff, List.any_eq_true]
      simp
    refine ⟨[some (.fr (ordD o)), some (.fr (eT l)), some (.fr (eN c)), none], rfl, fun hb => ?_, fun hb => ?_⟩
    · rw [ifS_e ht, hb]; rfl
    · rw [ifS_e ht, hb]; exact ⟨_, rfl, _, rfl⟩
  refine fn_rt ?_
  show dThen _ _ [some (.fr (ordD o)), some (.fr (eT l)), none, none] = _
  rcases for_find (en := eN) (fun x => l.any fun b => inw o x b) (.bool false) (fun ρ => ∃ s2, ρ = ([some (.fr (ordD o)), some (.fr (eT l)), s2, none] : Rho)) l [some (.fr (ordD o)), some (.fr (eT l)), none, none] ⟨none, rfl⟩ step with ⟨h1, h2⟩ | ⟨h1, ρ', h2, h3⟩
  · rw [then_rt ((for_e rfl).trans h2)]
    unfold freeB
    rw [h1]
    rfl
  · rw [then_nx ((for_e rfl).trans h2)]
    unfold freeB
    rw [h1]
    rfl
structure La (o : List Nat) (c : Nat) (ls : List (List Nat)) : Prop where
  len : ls.length ≤ c
  ne : ∀ l ∈ ls, l ≠ []
  lt : ∀ l ∈ ls, ∀ x ∈ l, x < c
  fr : ∀ l ∈ ls, ∀ x ∈ l, ∀ y ∈ l, inw o x y = false
  ll : ∀ l ∈ ls, l.length ≤ c
def put (ls : List (List Nat)) (p : Nat) (l : List Nat) : List (List Nat) := ls.take p ++ [l] ++ ls.drop (p + 1)
theorem inw_ge {o : List Nat} {x c : Nat} (h : x ≤ c) : inw o c x = false := by
  unfold inw
  rw [decide_eq_false (by omega), Bool.false_and]
theorem La.new {o : List Nat} {c : Nat} {ls : List (List Nat)} (h : La o c ls) : La o (c + 1) (ls ++ [[c]]) := by
  refine ⟨by rw [List.length_append, List.length_singleton]; have := h.len; omega, ?_, ?_, ?_, ?_⟩
  · intro l hl
    rcases List.mem_append.mp hl with hl | hl
    · exact h.ne l hl
    · rw [List.mem_singleton.mp hl]; simp
  · intro l hl x hx
    rcases List.mem_append.mp hl with hl | hl
    · have := h.lt l hl x hx; omega
    · rw [List.mem_singleton.mp hl] at hx; rw [List.mem_singleton.mp hx]; omega
  · intro l hl x hx y hy
    rcases List.mem_append.mp hl with hl | hl
    · exact h.fr l hl x hx y hy
    · rw [List.mem_singleton.mp hl] at hx hy
      rw [List.mem_singleton.mp hx, List.mem_singleton.mp hy]
      exact inw_ge (Nat.le_refl _)
  · intro l hl
    rcases List.mem_append.mp hl with hl | hl
    · have := h.ll l hl; omega
    · rw [List.mem_singleton.mp hl]; show 1 ≤ c + 1; omega
theorem put_mem {ls : List (List Nat)} {p : Nat} {l m : List Nat} (h : m ∈ put ls p l) : m ∈ ls ∨ m = l := by
  rcases List.mem_append.mp h with h | h
  · rcases List.mem_append.mp h with h | h
    · exact .inl (List.mem_of_mem_take h)
    · exact .inr (List.mem_singleton.mp h)
  · exact .inl (List.mem_of_mem_drop h)
theorem put_len {ls : List (List Nat)} {p : Nat} {l : List Nat} (h : p < ls.length) : (put ls p l).length = ls.length := by
  unfold put
  simp only [List.length_append, List.length_take, List.length_drop, List.length_singleton]
  omega
theorem La.put {o : List Nat} {c : Nat} {ls : List (List Nat)} (h : La o c ls) {p : Nat} {l : List Nat} (hp : ls[p]? = some l) (hf : ∀ x ∈ l, inw o x c = false) : La o (c + 1) (put ls p (l ++ [c])) := by
  have hlt := (List.getElem?_eq_some_iff.mp hp).1
  have hl := List.mem_of_getElem? hp
  refine ⟨by rw [put_len hlt]; have := h.len; omega, ?_, ?_, ?_, ?_⟩
  · intro m hm
    rcases put_mem hm with hm | rfl
    · exact h.ne m hm
    · simp
  · intro m hm x hx
    rcases put_mem hm with hm | rfl
    · have := h.lt m hm x hx; omega
    · rcases List.mem_append.mp hx with hx | hx
      · have := h.lt l hl x hx; omega
      · rw [List.mem_singleton.mp hx]; omega
  · intro m hm x hx y hy
    rcases put_mem hm with hm | rfl
    · exact h.fr m hm x hx y hy
    · rcases List.mem_append.mp hx with hx | hx
      · rcases List.mem_append.mp hy with hy | hy
        · exact h.fr l hl x hx y hy
        · rw [List.mem_singleton.mp hy]; exact hf x hx
      · rw [List.mem_singleton.mp hx]
        rcases List.mem_append.mp hy with hy | hy
        · exact inw_ge (Nat.le_of_lt (h.lt l hl y hy))
        · rw [List.mem_singleton.mp hy]; exact inw_ge (Nat.le_refl _)
  · intro m hm
    rcases put_mem hm with hm | rfl
    · have := h.ll m hm; omega
    · rw [List.length_append, List.length_singleton]; have := h.ll l hl; omega
def okB (o l : List Nat) (c : Nat) : Bool := !l.any fun x => inw o x c
theorem okB_iff {o l : List Nat} {c : Nat} : okB o l c = true ↔ ∀ x ∈ l, inw o x c = false := by
  unfold okB
  rw [Bool.not_eq_true', List.any_eq_false]
  simp
def arrs (o : List Nat) : Nat → List (List Nat) → Nat → List (List (List Nat))
  | 0, _, _ => []
  | d + 1, ls, c => if c = o.length then [ls] else arrs o d (ls ++ [[c]]) (c + 1) ++ (ls.zipIdx.flatMap fun q => if okB o q.1 c = true then arrs o d (put ls q.2 (q.1 ++ [c])) (c + 1) else [])
theorem flat_len {α β : Type} {f : α → List β} {B : Nat} : ∀ {l : List α}, (∀ x ∈ l, (f x).length ≤ B) → (l.flatMap f).length ≤ l.length * B
  | [], _ => by simp
  | x :: l, h => by
    have h1 := flat_len (f := f) (B := B) (l := l) fun y hy => h y (by simp [hy])
    have h2 := h x (by simp)
    rw [List.flatMap_cons, List.length_append, List.length_cons, Nat.add_mul]
    omega
theorem zipIdx_get {α : Type} {l : List α} {q : α × Nat} (h : q ∈ l.zipIdx) : l[q.2]? = some q.1 := by
  have := List.mem_zipIdx_iff_getElem?.mp h
  exact this
theorem arrs_len {o : List Nat} (hn : o.length ≤ 6) : ∀ (d : Nat) (ls : List (List Nat)) (c : Nat), ls.length ≤ c → c ≤ o.length → (arrs o d ls c).length ≤ 7 ^ (o.length - c)
  | 0, ls, c, _, _ => Nat.zero_le _
  | d + 1, ls, c, hl, hc => by
    unfold arrs
    split
    · rename_i e
      rw [e, Nat.sub_self]
      exact Nat.le_refl _
    · rename_i e
      have h7 : 7 ^ (o.length - c) = 7 * 7 ^ (o.length - (c + 1)) := by
        rw [show o.length - c = (o.length - (c + 1)) + 1 by omega, Nat.pow_succ, Nat.mul_comm]
      have h1 : (ls.zipIdx.flatMap fun q => if okB o q.1 c = true then arrs o d (put ls q.2 (q.1 ++ [c])) (c + 1) else []).length ≤ ls.zipIdx.length * 7 ^ (o.length - (c + 1)) := flat_len fun q hq => by
        split
        · have hq := (List.getElem?_eq_some_iff.mp (zipIdx_get hq)).1
          exact arrs_len hn d _ _ (by rw [put_len hq]; omega) (by omega)
        · exact Nat.zero_le _
      have h2 : (arrs o d (ls ++ [[c]]) (c + 1)).length ≤ 7 ^ (o.length - (c + 1)) := arrs_len hn d _ _ (by rw [List.length_append, List.length_singleton]; omega) (by omega)
      rw [List.length_zipIdx] at h1
      rw [h7]
      generalize 7 ^ (o.length - (c + 1)) = B at *
      have h3 : (ls.length + 1) * B ≤ 7 * B := Nat.mul_le_mul_right _ (by omega)
      rw [Nat.add_mul, Nat.one_mul] at h3
      rw [List.length_append]
      omega
theorem pow7 {k : Nat} (h : k ≤ 6) : 7 ^ k ≤ 117649 := Nat.pow_le_pow_right (n := 7) (j := 6) (by decide) h
end Dl
end
section
set_option Elab.async false
set_option linter.all false
set_option autoImplicit false
set_option maxRecDepth 100000
namespace Dl
open PySem L2 VS
abbrev lanD (ls : List (List Nat)) : PyData := .tuple (ls.map eT)
theorem cutLo {α : Type} (l : List α) (k : Nat) (hk : k ≤ l.length) : cutD l none (some (k : Int)) = l.take k := by
  unfold cutD
  have h1 : HT.sIx l.length 0 none = 0 := by simp [HT.sIx]
  have h2 : HT.sIx l.length l.length (some (k : Int)) = k := by
    simp only [HT.sIx]
    rw [if_neg (by omega)]
    omega
  rw [h1, h2]
  simp
theorem cut_drop1 {α : Type} (l : List α) (k : Nat) : cutD l (some ((k : Int) + 1)) none = l.drop (k + 1) := by
  unfold cutD
  have h1 : HT.sIx l.length 0 (some ((k : Int) + 1)) = min (k + 1) l.length := by
    simp only [HT.sIx]
    rw [if_neg (by omega)]
    omega
  have h2 : HT.sIx l.length l.length none = l.length := by simp [HT.sIx]
  rw [h1, h2]
  by_cases h : k + 1 ≤ l.length
  · rw [Nat.min_eq_left h]
    exact List.take_of_length_le (by rw [List.length_drop]; exact Nat.le_refl _)
  · rw [Nat.min_eq_right (by omega), List.drop_of_length_le (Nat.le_refl _), List.drop_of_length_le (by omega)]
    simp
theorem put_e {g1 gp gl : Rho → RE PyData} {ρ : Rho} {ls : List (List Nat)} {p : Nat} {l : List Nat} (h1 : g1 ρ = .ok (lanD ls)) (hp : gp ρ = .ok (eN p)) (hl : gl ρ = .ok (eT l)) (hlt : p < ls.length) (hb : ls.length ≤ 1000) :
    (dBin addD (dBin addD (dSl sliceD g1 dNoP (dP gp)) (dTup (dCons gl dNil))) (dSl sliceD g1 (dP (dBin addD gp (dC (.int 1)))) dNoP)) ρ = .ok (lanD (put ls p l)) := by
  have e1 : (dSl sliceD g1 dNoP (dP gp)) ρ = .ok (lanD (ls.take p)) := by
    unfold dSl dNoP dP
    rw [h1, R.bind_ok, R.bind_ok, hp, R.bind_ok]
    show R.of (some (PyData.tuple (cutD (ls.map eT) none (some (p : Int))))) = _
    rw [cutLo _ _ (by rw [List.length_map]; omega), ← List.map_take]
    rfl
  have e2 : (dSl sliceD g1 (dP (dBin addD gp (dC (.int 1)))) dNoP) ρ = .ok (lanD (ls.drop (p + 1))) := by
    unfold dSl dNoP dP
    rw [h1, R.bind_ok, dBin_s, hp]
    show R.of (some (PyData.tuple (cutD (ls.map eT) (some ((p : Int) + 1)) none))) = _
    rw [cut_drop1, ← List.map_drop]
    rfl
  have e3 : (dTup (dCons gl dNil)) ρ = .ok (lanD [l]) := by
    rw [dTup_s, dCons_s, hl]
    rfl
  have a1 : addD (lanD (ls.take p)) (lanD [l]) = some (lanD (ls.take p ++ [l])) := by
    rw [addU_s (by simp only [List.length_map, List.length_take, List.length_singleton]; unfold lim; omega), ← List.map_append]
  have a2 : addD (lanD (ls.take p ++ [l])) (lanD (ls.drop (p + 1))) = some (lanD (put ls p l)) := by
    rw [addU_s (by simp only [List.length_map, List.length_append, List.length_take, List.length_drop, List.length_singleton]; unfold lim; omega), ← List.map_append]
    rfl
  exact bin_e (bin_e e1 e3 a1) e2 a2
theorem addN_e {s : List Nat} {c : Nat} (h : s.length ≤ 1000) : addD (eT s) (.tuple [eN c]) = some (eT (s ++ [c])) := by
  rw [addU_s (by simp only [List.length_map, List.length_cons, List.length_nil]; unfold lim; omega)]
  simp
theorem addL1_e {ls : List (List Nat)} {c : Nat} (h : ls.length ≤ 1000) : addD (lanD ls) (.tuple [.tuple [eN c]]) = some (lanD (ls ++ [[c]])) := by
  rw [addU_s (by simp only [List.length_map, List.length_cons, List.length_nil]; unfold lim; omega)]
  simp
theorem zip_range (ls : List (List Nat)) : ls.zipIdx = (List.range ls.length).map fun i => (ls.getD i [], i) := by
  apply List.ext_getElem?
  intro i
  rw [List.getElem?_zipIdx, List.getElem?_map]
  by_cases hi : i < ls.length
  · rw [List.getElem?_range hi, List.getElem?_eq_getElem hi]
    simp [List.getD_eq_getElem?_getD, hi]
  · rw [List.getElem?_eq_none (by omega), List.getElem?_eq_none (by simp; omega)]
    rfl
theorem freeB_snoc {o l : List Nat} {c : Nat} (hl : ∀ x ∈ l, x < c) (hf : ∀ x ∈ l, ∀ y ∈ l, inw o x y = false) : freeB o (l ++ [c]) = okB o l c := by
  unfold freeB okB
  congr 1
  rw [Bool.eq_iff_iff, List.any_eq_true, List.any_eq_true]
  constructor
  · rintro ⟨a, ha, h⟩
    obtain ⟨b, hb, h⟩ := List.any_eq_true.mp h
    rcases List.mem_append.mp ha with ha | ha
    · rcases List.mem_append.mp hb with hb | hb
      · rw [hf a ha b hb] at h; cases h
      · rw [List.mem_singleton.mp hb] at h; exact ⟨a, ha, h⟩
    · rw [List.mem_singleton.mp ha] at h
      have : b ≤ c := by
        rcases List.mem_append.mp hb with hb | hb
        · exact Nat.le_of_lt (hl b hb)
        · rw [List.mem_singleton.mp hb]; exact Nat.le_refl _
      rw [inw_ge this] at h; cases h
  · rintro ⟨a, ha, h⟩
    exact ⟨a, by simp [ha], List.any_eq_true.mpr ⟨c, by simp, h⟩⟩
theorem arranged_e {o : List Nat} (h : Ord o) (hn : o.length ≤ 6) : ∀ (d : Nat) (ls : List (List Nat)) (c : Nat), La o c ls → c ≤ o.length → o.length < c + d → DR__law_arranged d [ordD o, lanD ls, eN c] = .ok (.list ((arrs o d ls c).map lanD))
  | 0, ls, c, _, hc, hd => by omega
  | d + 1, ls, c, L, hc, hd => by
    have hin : ∀ x, x < o.length → x ∈ o := fun x hx => h.lt.mpr hx
    have hll := L.len
    have teq : (dTest (dBin eqD (dVar 2) (dUn lenD (dVar 0)))) [some (.fr (ordD o)), some (.fr (lanD ls)), some (.fr (eN c)), none, none, none] = .ok (decide (c = o.length)) := by
      refine dTest_ok (bin_e (d := eN c) rfl (un_e rfl lenU_s) ?_)
      rw [List.length_map, eqI_s, decide_eq_decide.mpr Int.ofNat_inj]
    by_cases e : c = o.length
    · have hx : arrs o (d + 1) ls c = [ls] := by unfold arrs; rw [if_pos e]
      rw [hx]
      refine fn_rt (then_rt ((ifS_e teq).trans ?_))
      rw [decide_eq_true e]
      rfl
    · have hcn : c < o.length := by omega
      have hco := hin c hcn
      let f : Nat → List (List (List Nat)) := fun i => if okB o (ls.getD i []) c = true then arrs o d (put ls i (ls.getD i [] ++ [c])) (c + 1) else []
      let A := arrs o d (ls ++ [[c]]) (c + 1)
      have hx : arrs o (d + 1) ls c = A ++ (List.range ls.length).flatMap f := by
        rw [arrs, if_neg e, zip_range, List.flatMap_map]
      have hB := pow7 (k := o.length - (c + 1)) (by omega)
      have hA : A.length ≤ 7 ^ (o.length - (c + 1)) := arrs_len hn d _ _ (by rw [List.length_append, List.length_singleton]; omega) (by omega)
      have hfl : ∀ i < ls.length, (f i).length ≤ 7 ^ (o.length - (c + 1)) := fun i hi => by
        show (if okB o (ls.getD i []) c = true then arrs o d (put ls i (ls.getD i [] ++ [c])) (c + 1) else []).length ≤ _
        split
        · exact arrs_len hn d _ _ (by rw [put_len hi]; omega) (by omega)
        · exact Nat.zero_le _
      have ihA := arranged_e h hn d (ls ++ [[c]]) (c + 1) L.new (by omega) (by omega)
      have main := rt_fn (n := 6) (ks := [true, true, true]) (ds := [ordD o, lanD ls, eN c]) (G := GR__law_arranged (DR__law_arranged d)) (T := fun z => z = .list ((arrs o (d + 1) ls c).map lanD)) (rt_no (by rw [decide_eq_false e] at teq; exact teq) (rt_set (d := .list (A.map lanD)) (by
          have ea : (dBin addD (dVar 1) (dTup (dCons (dTup (dCons (dVarF 2) dNil)) dNil))) [some (.fr (ordD o)), some (.fr (lanD ls)), some (.fr (eN c)), none, none, none] = .ok (lanD (ls ++ [[c]])) := bin_e rfl rfl (addL1_e (by omega))
          show (dCall (DR__law_arranged d) (dCons (dVarF 0) (dCons (dBin addD (dVar 1) (dTup (dCons (dTup (dCons (dVarF 2) dNil)) dNil))) (dCons (dBin addD (dVar 2) (dC (.int 1))) dNil)))) [some (.fr (ordD o)), some (.fr (lanD ls)), some (.fr (eN c)), none, none, none] = _
          rw [dCall_s, dCons_s, dCons_s, ea]
          exact ihA) (rt_for (α := Nat) (en := eN) (fun p ρ => ∃ s4 s5, ρ = [some (.fr (ordD o)), some (.fr (lanD ls)), some (.fr (eN c)), some (.fr (.list ((A ++ p.flatMap f).map lanD))), s4, s5]) (List.range ls.length) (rng1_e (n := ls.length) (un_e rfl (by show some (PyData.int ((ls.map eT).length : Nat)) = _; rw [List.length_map])) (by omega)) ⟨none, none, by rw [List.flatMap_nil, List.append_nil]; rfl⟩ (by
        rintro p i qs ρ hp ⟨s4, s5, rfl⟩
        obtain ⟨rfl, hlt⟩ := range_at hp
        have hget : ls[p.length]? = some (ls.getD p.length []) := by rw [List.getD_eq_getElem?_getD, List.getElem?_eq_getElem hlt]; rfl
        have hqm := List.mem_of_getElem? hget
        have hql := L.ll _ hqm
        have hacc : (p.flatMap f).length ≤ p.length * 7 ^ (o.length - (c + 1)) := flat_len fun x hx => hfl x (by
          have : x ∈ List.range ls.length := by rw [hp]; simp [hx]
          exact List.mem_range.mp this)
        have hacc2 : p.length * 7 ^ (o.length - (c + 1)) ≤ 6 * 117649 := Nat.mul_le_mul (by omega) hB
        generalize hl : ls.getD p.length [] = l at *
        have ei : (dBin addD (dBin idxD (dVar 1) (dVar 4)) (dTup (dCons (dVarF 2) dNil))) [some (.fr (ordD o)), some (.fr (lanD ls)), some (.fr (eN c)), some (.fr (.list ((A ++ p.flatMap f).map lanD))), some (.fr (eN p.length)), s5] = .ok (eT (l ++ [c])) := bin_e (bin_e rfl rfl (idxU_e hget)) rfl (addN_e (by omega))
        have hin2 : ∀ x ∈ l ++ [c], x ∈ o := fun x hx => by
          rcases List.mem_append.mp hx with hx | hx
          · exact hin x (by have := L.lt _ hqm x hx; omega)
          · rw [List.mem_singleton.mp hx]; exact hco
        have ht : (dTru (dCall D__law_free (dCons (dVarF 0) (dCons (dVarF 5) dNil)))) [some (.fr (ordD o)), some (.fr (lanD ls)), some (.fr (eN c)), some (.fr (.list ((A ++ p.flatMap f).map lanD))), some (.fr (eN p.length)), some (.fr (eT (l ++ [c])))] = .ok (okB o l c) := by
          have := law_free_g hin2 (by rw [List.length_append, List.length_singleton]; omega)
          rw [freeB_snoc (L.lt _ hqm) (L.fr _ hqm)] at this
          rw [dTru_s]
          show R.bind (D__law_free [ordD o, eT (l ++ [c])]) _ = _
          rw [this]
          rfl
        refine ⟨[some (.fr (ordD o)), some (.fr (lanD ls)), some (.fr (eN c)), some (.fr (.list ((A ++ p.flatMap f).map lanD))), some (.fr (eN p.length)), s5], [some (.fr (ordD o)), some (.fr (lanD ls)), some (.fr (eN c)), some (.fr (.list ((A ++ (p ++ [p.length]).flatMap f).map lanD))), some (.fr (eN p.length)), some (.fr (eT (l ++ [c])))], rfl, (then_nx (set_e ei)).trans ((ifS_e ht).trans ?_), _, _, rfl⟩
        rw [List.flatMap_append, List.flatMap_cons, List.flatMap_nil, List.append_nil]
        cases hb : okB o l c with
        | false =>
          have hf : f p.length = [] := by
            show (if okB o (ls.getD p.length []) c = true then _ else _) = _
            rw [hl, hb]; rfl
          rw [hf, List.append_nil]
          rfl
        | true =>
          have hf : f p.length = arrs o d (put ls p.length (l ++ [c])) (c + 1) := by
            show (if okB o (ls.getD p.length []) c = true then _ else _) = _
            rw [hl, hb]; rfl
          have ih := arranged_e h hn d (put ls p.length (l ++ [c])) (c + 1) (L.put hget (okB_iff.mp hb)) (by omega) (by omega)
          rw [← hf] at ih
          have hfq := hfl p.length hlt
          refine (set_e (d := .list ((A ++ (p.flatMap f ++ f p.length)).map lanD)) ?_).trans rfl
          have ep := put_e (g1 := dVar 1) (gp := dVar 4) (gl := dVarF 5) (ρ := [some (.fr (ordD o)), some (.fr (lanD ls)), some (.fr (eN c)), some (.fr (.list ((A ++ p.flatMap f).map lanD))), some (.fr (eN p.length)), some (.fr (eT (l ++ [c])))]) rfl rfl rfl hlt (by omega)
          have ec : (dCall (DR__law_arranged d) (dCons (dVarF 0) (dCons (dBin addD (dBin addD (dSl sliceD (dVar 1) dNoP (dP (dVar 4))) (dTup (dCons (dVarF 5) dNil))) (dSl sliceD (dVar 1) (dP (dBin addD (dVar 4) (dC (.int 1)))) dNoP)) (dCons (dBin addD (dVar 2) (dC (.int 1))) dNil)))) [some (.fr (ordD o)), some (.fr (lanD ls)), some (.fr (eN c)), some (.fr (.list ((A ++ p.flatMap f).map lanD))), some (.fr (eN p.length)), some (.fr (eT (l ++ [c])))] = .ok (.list ((f p.length).map lanD)) := by
            rw [dCall_s, dCons_s, dCons_s, ep]
            exact ih
          refine bin_e rfl ec ?_
          show addD (.list ((A ++ p.flatMap f).map lanD)) _ = _
          rw [addL_s (by simp only [List.length_map, List.length_append]; unfold lim; omega), ← List.map_append, List.append_assoc]) (by
        rintro ρ' ⟨s4, s5, rfl⟩
        refine rt_ret (d := .list ((A ++ (List.range ls.length).flatMap f).map lanD)) rfl ?_
        rw [hx]))))
      obtain ⟨z, ez, rfl⟩ := main
      exact ez
end Dl
namespace Dl
open PySem L2 VS PySem.W PyProof.Rows
theorem eT_inj {a b : List Nat} (h : keyToks (eT a) = keyToks (eT b)) : a = b := by
  have h1 := toks_inj (alike_tup a b) h
  have h2 : PyData.eqv (Dt.d (⟨a⟩ : Tu Nat)) (Dt.d (⟨b⟩ : Tu Nat)) = true := h1
  rw [Dt.eqv, decide_eq_true_eq] at h2
  exact congrArg Tu.l h2
theorem head_le {a b : List Nat} (ha : a ≠ []) (hb : b ≠ []) (h : a.headD 0 < b.headD 0) : dataLe false id (eT a) (eT b) = true := by
  simp only [dataLe_eq, cond_false, id, Bool.not_eq_true']
  obtain ⟨x, xs, rfl⟩ := List.exists_cons_of_ne_nil ha
  obtain ⟨y, ys, rfl⟩ := List.exists_cons_of_ne_nil hb
  have hxy : x < y := h
  rw [dataLt_tuple, List.map_cons, List.map_cons, dataLt_all_no (by simp [alike]) (by simp only [PyData.eqv]; exact beq_eq_false_iff_ne.mpr (by omega)), dataLt_int]
  exact decide_eq_false (by omega)
theorem sorted_heads {x y : List (List Nat)} (hp : y.Perm x) (hne : ∀ l ∈ y, l ≠ []) (hd : (y.map fun l => l.headD 0).Pairwise (· < ·)) (hl : x.length ≤ lim) : sortD (.list (x.map eT)) = some (.list (y.map eT)) := by
  have hs : sortB (x.map eT) = true := by
    unfold sortB
    simp only [Bool.and_eq_true, Bool.or_eq_true]
    refine ⟨⟨⟨?_, ?_⟩, ?_⟩, .inl (.inl ?_)⟩
    · simp only [List.all_eq_true]
      intro d hd e he
      obtain ⟨p, _, rfl⟩ := List.mem_map.mp hd
      obtain ⟨q, _, rfl⟩ := List.mem_map.mp he
      exact alike_tup p q
    · simp only [List.all_eq_true]
      intro d hd
      obtain ⟨p, _, rfl⟩ := List.mem_map.mp hd
      have := depth_tup p
      exact decide_eq_true (by omega)
    · exact decide_eq_true (by simpa using hl)
    · simp only [List.all_eq_true]
      intro d hd
      obtain ⟨p, hp', rfl⟩ := List.mem_map.mp hd
      obtain ⟨l, r, e⟩ := List.exists_cons_of_ne_nil (hne p (hp.mem_iff.mpr hp'))
      rw [e]
      rfl
  show (if sortB (x.map eT) = true then some (PyData.list (sortedL (x.map eT))) else none) = _
  rw [if_pos hs]
  refine congrArg (fun z => some (PyData.list z)) ?_
  unfold sortedL
  have px := List.mergeSort_perm (x.map eT) (dataLe false id)
  refine List.Perm.eq_of_pairwise (le := fun a b => dataLe false id a b = true) (fun a b ha hb h1 h2 => ?_) (List.pairwise_mergeSort le_tr le_tot _) ?_ (px.trans (hp.map eT).symm)
  · simp only [dataLe_eq, cond_false, id, Bool.not_eq_true'] at h1 h2
    obtain ⟨p, _, rfl⟩ := List.mem_map.mp (px.mem_iff.mp ha)
    obtain ⟨q, _, rfl⟩ := List.mem_map.mp hb
    rw [eT_inj (lex_total (O := itemOrd) _ _ h2 h1)]
  · rw [List.pairwise_map] at hd ⊢
    exact hd.imp_of_mem fun {a b} ha hb hab => head_le (hne a ha) (hne b hb) hab
theorem alike_lanes : ∀ xs ys : List (List Nat), alikeAll (xs.map eT) (ys.map eT) = true
  | [], _ => by simp [alikeAll]
  | _ :: _, [] => by simp [alikeAll]
  | x :: xs, y :: ys => by
    have h1 := alike_tup x y
    have h2 := alike_lanes xs ys
    simp only [List.map_cons, alikeAll, h2, Bool.and_true]
    exact h1
theorem alike_lan (a b : List (List Nat)) : alike (lanD a) (lanD b) = true := by
  simp only [alike]
  exact alike_lanes a b
abbrev TT := Tu (Tu Nat)
def tt (a : List (List Nat)) : TT := ⟨a.map fun l => ⟨l⟩⟩
theorem lan_d (a : List (List Nat)) : lanD a = Dt.d (tt a) := by
  show PyData.tuple (a.map eT) = PyData.tuple ((a.map fun l => (⟨l⟩ : Tu Nat)).map Dt.d)
  rw [List.map_map]
  rfl
theorem tt_inj {a b : List (List Nat)} (h : tt a = tt b) : a = b := by
  have h1 : (a.map fun l => (⟨l⟩ : Tu Nat)) = b.map fun l => ⟨l⟩ := congrArg Tu.l h
  have h2 := congrArg (List.map Tu.l) h1
  rw [List.map_map, List.map_map] at h2
  have e : ∀ l : List (List Nat), l.map (Tu.l ∘ fun l => (⟨l⟩ : Tu Nat)) = l := fun l => List.map_id l
  rw [e, e] at h2
  exact h2
theorem lan_inj {a b : List (List Nat)} (h : keyToks (lanD a) = keyToks (lanD b)) : a = b := by
  have h1 := toks_inj (alike_lan a b) h
  rw [lan_d, lan_d, Dt.eqv, decide_eq_true_eq] at h1
  exact tt_inj h1
theorem lan_sh (x : List (List (List Nat))) : SeqAt.shaped (.list (x.map lanD)) = true := by
  have := shapedL_d (α := TT) (by decide) (x.map tt)
  rw [List.map_map] at this
  rw [show x.map lanD = x.map (Dt.d ∘ tt) from List.map_congr_left fun a _ => lan_d a]
  exact this
theorem sortB_lan {x : List (List (List Nat))} (h : ∀ a ∈ x, a ≠ []) (hl : x.length ≤ lim) : sortB (x.map lanD) = true := by
  unfold sortB
  simp only [Bool.and_eq_true, Bool.or_eq_true]
  refine ⟨⟨⟨?_, ?_⟩, ?_⟩, .inl (.inl ?_)⟩
  · simp only [List.all_eq_true]
    intro d hd e he
    obtain ⟨p, _, rfl⟩ := List.mem_map.mp hd
    obtain ⟨q, _, rfl⟩ := List.mem_map.mp he
    exact alike_lan p q
  · simp only [List.all_eq_true]
    intro d hd
    obtain ⟨p, _, rfl⟩ := List.mem_map.mp hd
    have : (Dt.d (tt p)).depth ≤ 2 := Dt.dle (tt p)
    rw [← lan_d] at this
    exact decide_eq_true (by omega)
  · exact decide_eq_true (by simpa using hl)
  · simp only [List.all_eq_true]
    intro d hd
    obtain ⟨p, hp, rfl⟩ := List.mem_map.mp hd
    obtain ⟨l, r, e⟩ := List.exists_cons_of_ne_nil (h p hp)
    rw [e]
    rfl
def srtA (x : List (List (List Nat))) : List (List (List Nat)) := x.mergeSort fun p q => dataLe false id (lanD p) (lanD q)
theorem sortedL_lan (x : List (List (List Nat))) : sortedL (x.map lanD) = (srtA x).map lanD := by
  unfold sortedL srtA
  exact (List.map_mergeSort (r := fun p q => dataLe false id (lanD p) (lanD q)) (s := dataLe false id) (f := lanD) fun a _ b _ => rfl).symm
theorem sort_lan {x : List (List (List Nat))} (h : ∀ a ∈ x, a ≠ []) (hl : x.length ≤ lim) : sortD (.list (x.map lanD)) = some (.list ((srtA x).map lanD)) := by
  show (if sortB (x.map lanD) = true then some (PyData.list (sortedL (x.map lanD))) else none) = _
  rw [if_pos (sortB_lan h hl), sortedL_lan]
theorem srtA_perm (x : List (List (List Nat))) : (srtA x).Perm x := List.mergeSort_perm _ _
theorem map_inj {α β : Type} {f : α → β} (hf : ∀ a b, f a = f b → a = b) : ∀ {l m : List α}, l.map f = m.map f → l = m
  | [], [], _ => rfl
  | [], _ :: _, h => by cases h
  | _ :: _, [], h => by cases h
  | a :: l, b :: m, h => by
    rw [List.map_cons, List.map_cons, List.cons.injEq] at h
    rw [hf a b h.1, map_inj hf h.2]
theorem srtA_eq {x y : List (List (List Nat))} (hp : x.Perm y) : srtA x = srtA y := by
  have h := sorted_perm (x := x.map lanD) (y := y.map lanD) (hp.map lanD) (by
    intro a ha b hb e
    obtain ⟨p, _, rfl⟩ := List.mem_map.mp ha
    obtain ⟨q, _, rfl⟩ := List.mem_map.mp hb
    rw [lan_inj e])
  rw [sortedL_lan, sortedL_lan] at h
  exact map_inj (fun a b e => lan_inj (congrArg keyToks e)) h
theorem la_nil (o : List Nat) : La o 0 [] := ⟨Nat.le_refl _, by simp, by simp, by simp, by simp⟩
theorem arrs_bd {o : List Nat} (hn : o.length ≤ 6) : (arrs o 8 [] 0).length ≤ 117649 := Nat.le_trans (arrs_len hn 8 [] 0 (Nat.le_refl _) (Nat.zero_le _)) (pow7 (by omega))
end Dl
end
section
set_option Elab.async false
set_option linter.all false
set_option autoImplicit false
set_option maxRecDepth 100000
namespace Dl
open PySem L2 VS
/-! ### lanes, sorted by their first cars -/
abbrev hd1 (l : List Nat) : Nat := l.headD 0
def srtH (x : List (List Nat)) : List (List Nat) := x.mergeSort fun a b => decide (hd1 a ≤ hd1 b)
theorem srtH_perm (x : List (List Nat)) : (srtH x).Perm x := List.mergeSort_perm _ _
theorem srtH_pw (x : List (List Nat)) : (srtH x).Pairwise fun a b => hd1 a ≤ hd1 b := by
  have := List.pairwise_mergeSort (le := fun a b : List Nat => decide (hd1 a ≤ hd1 b)) (fun a b c h1 h2 => decide_eq_true (by have := of_decide_eq_true h1; have := of_decide_eq_true h2; omega)) (fun a b => by
    rw [Bool.or_eq_true]
    rcases Nat.le_total (hd1 a) (hd1 b) with h | h
    · exact .inl (decide_eq_true h)
    · exact .inr (decide_eq_true h)) x
  exact this.imp fun h => of_decide_eq_true h
theorem hd_inj : ∀ {y : List (List Nat)}, (y.map hd1).Pairwise (· < ·) → ∀ a ∈ y, ∀ b ∈ y, hd1 a = hd1 b → a = b
  | [], _, a, h, _, _, _ => nomatch h
  | x :: y, h, a, ha, b, hb, e => by
    rw [List.map_cons] at h
    obtain ⟨h1, h2⟩ := List.pairwise_cons.mp h
    rcases List.mem_cons.mp ha with rfl | ha
    · rcases List.mem_cons.mp hb with rfl | hb
      · rfl
      · have := h1 (hd1 b) (List.mem_map_of_mem hb); omega
    · rcases List.mem_cons.mp hb with e2 | hb
      · have := h1 (hd1 a) (List.mem_map_of_mem ha); rw [e2] at e; omega
      · exact hd_inj h2 a ha b hb e
theorem srtH_eq {x y : List (List Nat)} (hp : y.Perm x) (hd : (y.map hd1).Pairwise (· < ·)) : srtH x = y := by
  refine ((srtH_perm x).trans hp.symm).eq_of_pairwise (fun a b ha hb h1 h2 => hd_inj hd a ?_ b hb (Nat.le_antisymm h1 h2)) (srtH_pw x) ?_
  · exact hp.symm.mem_iff.mp ((srtH_perm x).mem_iff.mp ha)
  · rw [List.pairwise_map] at hd
    exact hd.imp fun h => Nat.le_of_lt h
theorem lt_of_nd : ∀ {l : List (List Nat)}, (l.Pairwise fun a b => hd1 a ≤ hd1 b) → (l.map hd1).Nodup → (l.map hd1).Pairwise (· < ·)
  | [], _, _ => .nil
  | x :: l, h, hn => by
    obtain ⟨h1, h2⟩ := List.pairwise_cons.mp h
    rw [List.map_cons] at hn ⊢
    obtain ⟨n1, n2⟩ := List.nodup_cons.mp hn
    refine List.pairwise_cons.mpr ⟨fun y hy => ?_, lt_of_nd h2 n2⟩
    obtain ⟨b, hb, rfl⟩ := List.mem_map.mp hy
    have := h1 b hb
    have : hd1 x ≠ hd1 b := fun e => n1 (e ▸ hy)
    omega
theorem srtH_lt {x : List (List Nat)} (h : (x.map hd1).Nodup) : ((srtH x).map hd1).Pairwise (· < ·) :=
  lt_of_nd (srtH_pw x) (((srtH_perm x).map hd1).nodup_iff.mpr h)
theorem hd1_mem {l : List Nat} (h : l ≠ []) : hd1 l ∈ l := by
  cases l with
  | nil => exact absurd rfl h
  | cons x l => exact List.mem_cons_self
theorem heads_nd : ∀ {ls : List (List Nat)}, ls.flatten.Nodup → (∀ l ∈ ls, l ≠ []) → (ls.map hd1).Nodup
  | [], _, _ => .nil
  | l :: ls, h, hne => by
    rw [List.flatten_cons] at h
    obtain ⟨_, h2, h3⟩ := List.nodup_append.mp h
    rw [List.map_cons]
    refine List.nodup_cons.mpr ⟨fun hm => ?_, heads_nd h2 fun m hm => hne m (List.mem_cons_of_mem _ hm)⟩
    obtain ⟨m, hm, e⟩ := List.mem_map.mp hm
    exact h3 (hd1 l) (hd1_mem (hne l (by simp))) (hd1 m) (List.mem_flatten.mpr ⟨m, hm, hd1_mem (hne m (List.mem_cons_of_mem _ hm))⟩) e.symm
/-! ### arrangements of the cars below k -/
structure Ln (o : List Nat) (k : Nat) (ls : List (List Nat)) : Prop where
  pm : ls.flatten.Perm (List.range k)
  ne : ∀ l ∈ ls, l ≠ []
  up : ∀ l ∈ ls, l.Pairwise (· < ·)
  no : ∀ l ∈ ls, ∀ x ∈ l, ∀ y ∈ l, inw o x y = false
  hd : (ls.map hd1).Pairwise (· < ·)
section
variable {o : List Nat} {k : Nat} {ls : List (List Nat)}
theorem Ln.lt (h : Ln o k ls) {l : List Nat} (hl : l ∈ ls) {x : Nat} (hx : x ∈ l) : x < k :=
  List.mem_range.mp (h.pm.mem_iff.mp (List.mem_flatten.mpr ⟨l, hl, hx⟩))
theorem len_flat : ∀ {ls : List (List Nat)}, (∀ l ∈ ls, l ≠ []) → ls.length ≤ ls.flatten.length
  | [], _ => Nat.zero_le _
  | l :: ls, h => by
    have := len_flat (ls := ls) fun m hm => h m (List.mem_cons_of_mem _ hm)
    have h1 := List.length_pos_iff.mpr (h l (by simp))
    rw [List.length_cons, List.flatten_cons, List.length_append]
    omega
theorem Ln.fl (h : Ln o k ls) : ls.flatten.length = k := by rw [h.pm.length_eq, List.length_range]
theorem Ln.len (h : Ln o k ls) : ls.length ≤ k := by
  have := len_flat h.ne
  rw [h.fl] at this
  exact this
theorem flat_mem_len {l : List Nat} : ∀ {ls : List (List Nat)}, l ∈ ls → l.length ≤ ls.flatten.length
  | m :: ls, h => by
    rw [List.flatten_cons, List.length_append]
    rcases List.mem_cons.mp h with rfl | h
    · omega
    · have := flat_mem_len h; omega
theorem Ln.llen (h : Ln o k ls) {l : List Nat} (hl : l ∈ ls) : l.length ≤ k := by
  have := flat_mem_len hl
  rw [h.fl] at this
  exact this
theorem Ln.nd (h : Ln o k ls) : ls.flatten.Nodup := h.pm.nodup_iff.mpr List.nodup_range
theorem Ln.sort (pm : ls.flatten.Perm (List.range k)) (ne : ∀ l ∈ ls, l ≠ []) (up : ∀ l ∈ ls, l.Pairwise (· < ·)) (no : ∀ l ∈ ls, ∀ x ∈ l, ∀ y ∈ l, inw o x y = false) : Ln o k (srtH ls) := by
  have hp := srtH_perm ls
  refine ⟨(hp.flatten).trans pm, fun l hl => ne l (hp.mem_iff.mp hl), fun l hl => up l (hp.mem_iff.mp hl), fun l hl => no l (hp.mem_iff.mp hl), srtH_lt (heads_nd (pm.nodup_iff.mpr List.nodup_range) ne)⟩
theorem Ln.srt (h : Ln o k ls) : srtH ls = ls := srtH_eq (.refl _) h.hd
theorem Ln.nil (o : List Nat) : Ln o 0 [] := ⟨by simp, by simp, by simp, by simp, by simp⟩
theorem Ln.new (h : Ln o k ls) : Ln o (k + 1) (ls ++ [[k]]) := by
  refine ⟨?_, ?_, ?_, ?_, ?_⟩
  · rw [List.flatten_append, List.range_succ]
    exact h.pm.append (by simp)
  · intro l hl
    rcases List.mem_append.mp hl with hl | hl
    · exact h.ne l hl
    · rw [List.mem_singleton.mp hl]; simp
  · intro l hl
    rcases List.mem_append.mp hl with hl | hl
    · exact h.up l hl
    · rw [List.mem_singleton.mp hl]; simp
  · intro l hl x hx y hy
    rcases List.mem_append.mp hl with hl | hl
    · exact h.no l hl x hx y hy
    · rw [List.mem_singleton.mp hl] at hx hy
      rw [List.mem_singleton.mp hx, List.mem_singleton.mp hy]
      exact inw_ge (Nat.le_refl _)
  · rw [List.map_append]
    refine List.pairwise_append.mpr ⟨h.hd, by simp, fun a ha b hb => ?_⟩
    obtain ⟨l, hl, rfl⟩ := List.mem_map.mp ha
    have := h.lt hl (hd1_mem (h.ne l hl))
    have hb : b = k := by simpa using hb
    omega
theorem put_set {ls : List (List Nat)} {p : Nat} {l m : List Nat} (hp : ls[p]? = some m) : put ls p l = ls.set p l := by
  have hlt := (List.getElem?_eq_some_iff.mp hp).1
  unfold put
  rw [List.set_eq_take_append_cons_drop, if_pos hlt]
  simp
theorem set_perm : ∀ {ls : List (List Nat)} {p : Nat} {m : List Nat} (l : List Nat), ls[p]? = some m → ∃ M, ls.Perm (m :: M) ∧ (ls.set p l).Perm (l :: M)
  | [], p, m, l, h => by simp at h
  | x :: ls, 0, m, l, h => by
    simp at h
    subst h
    exact ⟨ls, .refl _, .refl _⟩
  | x :: ls, p + 1, m, l, h => by
    obtain ⟨M, h1, h2⟩ := set_perm (p := p) l (by simpa using h)
    exact ⟨x :: M, (h1.cons x).trans (.swap ..), (h2.cons x).trans (.swap ..)⟩
theorem Ln.put (h : Ln o k ls) {p : Nat} {l : List Nat} (hp : ls[p]? = some l) (hf : ∀ x ∈ l, inw o x k = false) : Ln o (k + 1) (put ls p (l ++ [k])) := by
  have hl := List.mem_of_getElem? hp
  have hlt := fun x hx => h.lt hl (x := x) hx
  refine ⟨?_, ?_, ?_, ?_, ?_⟩
  · rw [put_set hp]
    obtain ⟨M, h1, h2⟩ := set_perm (l ++ [k]) hp
    refine h2.flatten.trans ?_
    rw [List.flatten_cons, List.append_assoc, List.range_succ]
    have h3 := h1.flatten.symm.trans h.pm
    rw [List.flatten_cons] at h3
    refine List.Perm.trans ?_ (h3.append_right [k])
    rw [List.append_assoc]
    exact List.Perm.append_left l List.perm_append_comm
  · intro m hm
    rcases put_mem hm with hm | rfl
    · exact h.ne m hm
    · simp
  · intro m hm
    rcases put_mem hm with hm | rfl
    · exact h.up m hm
    · refine List.pairwise_append.mpr ⟨h.up l hl, by simp, fun a ha b hb => ?_⟩
      rw [List.mem_singleton.mp hb]; exact hlt a ha
  · intro m hm x hx y hy
    rcases put_mem hm with hm | rfl
    · exact h.no m hm x hx y hy
    · rcases List.mem_append.mp hx with hx | hx
      · rcases List.mem_append.mp hy with hy | hy
        · exact h.no l hl x hx y hy
        · rw [List.mem_singleton.mp hy]; exact hf x hx
      · rw [List.mem_singleton.mp hx]
        rcases List.mem_append.mp hy with hy | hy
        · exact inw_ge (Nat.le_of_lt (hlt y hy))
        · rw [List.mem_singleton.mp hy]; exact inw_ge (Nat.le_refl _)
  · rw [put_set hp, List.map_set]
    have e : hd1 (l ++ [k]) = hd1 l := by
      have := h.ne l hl
      cases l with
      | nil => exact absurd rfl this
      | cons x l => rfl
    have : (ls.map hd1).set p (hd1 (l ++ [k])) = ls.map hd1 := by
      rw [e]
      have hg : (ls.map hd1)[p]? = some (hd1 l) := by rw [List.getElem?_map, hp]; rfl
      obtain ⟨hp', e'⟩ := List.getElem?_eq_some_iff.mp hg
      rw [← e']
      exact List.set_getElem_self hp'
    rw [this]
    exact h.hd
theorem arrs_ln : ∀ (d : Nat) (ls : List (List Nat)) (c : Nat), Ln o c ls → c ≤ o.length → ∀ r ∈ arrs o d ls c, Ln o o.length r
  | 0, ls, c, _, _, r, h => by cases h
  | d + 1, ls, c, L, hc, r, h => by
    unfold arrs at h
    split at h
    · rename_i e
      rw [List.mem_singleton.mp h, ← e]; exact L
    · rename_i e
      rcases List.mem_append.mp h with h | h
      · exact arrs_ln d _ _ L.new (by omega) r h
      · obtain ⟨q, hq, h⟩ := List.mem_flatMap.mp h
        split at h
        · rename_i hok
          exact arrs_ln d _ _ (L.put (zipIdx_get hq) (okB_iff.mp hok)) (by omega) r h
        · cases h
end
end Dl
end
section
set_option Elab.async false
set_option linter.all false
set_option autoImplicit false
set_option maxRecDepth 100000
namespace Dl
open PySem L2 VS

/-! ### is_free_of -/
theorem drop_any {o : List Nat} : ∀ {l : List Nat}, l.Pairwise (· < ·) → (l.zipIdx.any fun q => (l.drop (q.2 + 1)).any fun b => inw o q.1 b) = (l.any fun a => l.any fun b => inw o a b) := by
  intro l hup
  rw [Bool.eq_iff_iff, List.any_eq_true, List.any_eq_true]
  constructor
  · rintro ⟨q, hq, h⟩
    obtain ⟨b, hb, e⟩ := List.any_eq_true.mp h
    exact ⟨q.1, List.mem_of_getElem? (zipIdx_get hq), List.any_eq_true.mpr ⟨b, List.mem_of_mem_drop hb, e⟩⟩
  · rintro ⟨a, ha, h⟩
    obtain ⟨b, hb, e⟩ := List.any_eq_true.mp h
    obtain ⟨i, hi, rfl⟩ := List.getElem_of_mem ha
    obtain ⟨j, hj, rfl⟩ := List.getElem_of_mem hb
    refine ⟨(l[i], i), List.mem_zipIdx_iff_getElem?.mpr (by simp [hi]), List.any_eq_true.mpr ⟨l[j], ?_, e⟩⟩
    have hlt : l[i] < l[j] := by
      unfold inw at e
      simp only [Bool.and_eq_true, decide_eq_true_eq] at e
      exact e.1
    have hij : i < j := by
      rcases Nat.lt_trichotomy i j with z | z | z
      · exact z
      · subst z; omega
      · have := List.pairwise_iff_getElem.mp hup j i hj hi z; omega
    refine List.mem_of_getElem? (i := j - (i + 1)) ?_
    rw [List.getElem?_drop, show i + 1 + (j - (i + 1)) = j by omega, List.getElem?_eq_getElem hj]
theorem free_of_e {o l : List Nat} {d : PyData} (hd : d = .list (l.map eN) ∨ d = eT l) (hl : ∀ x ∈ l, x ∈ o) (hz : l.length ≤ 1000) (hup : l.Pairwise (· < ·)) : D_is_free_of [ordD o, d] = .ok (.bool (freeB o l)) := by
  have hen : dEnum (dVarF 1) [some (.fr (ordD o)), some (.fr d), none, none, none] = .ok (l.zipIdx.map eI) := by
    rcases hd with rfl | rfl
    · show R.of (some (enumL 0 (l.map eN))) = _
      rw [enumN_e]; rfl
    · show R.of (some (enumL 0 (l.map eN))) = _
      rw [enumN_e]; rfl
  have step : ∀ q ∈ l.zipIdx, ∀ ρ, (∃ s2 s3, ρ = ([some (.fr (ordD o)), some (.fr d), s2, s3, none] : Rho)) → ∃ ρ1, dTgN [2, 3] (eI q) ρ = some ρ1 ∧
      (((l.drop (q.2 + 1)).any fun b => inw o q.1 b) = true → (dIfS (dTru (dLc [4] (dTg1 4) (dSeq (dSl sliceD (dVar 1) (dP (dBin addD (dVar 2) (dC (.int 1)))) dNoP)) (dTru (dCall D_blocks (dCons (dVarF 0) (dCons (dVarF 3) (dCons (dVarF 4) dNil))))) (dVarF 4))) (dRet (dC (.bool false))) dNx) ρ1 = .ok (.rt (.bool false))) ∧ (((l.drop (q.2 + 1)).any fun b => inw o q.1 b) = false → ∃ ρ2, (dIfS (dTru (dLc [4] (dTg1 4) (dSeq (dSl sliceD (dVar 1) (dP (dBin addD (dVar 2) (dC (.int 1)))) dNoP)) (dTru (dCall D_blocks (dCons (dVarF 0) (dCons (dVarF 3) (dCons (dVarF 4) dNil))))) (dVarF 4))) (dRet (dC (.bool false))) dNx) ρ1 = .ok (.nx ρ2) ∧ ∃ s2 s3, ρ2 = ([some (.fr (ordD o)), some (.fr d), s2, s3, none] : Rho)) := by
    rintro ⟨c, i⟩ hq ρ ⟨s2, s3, rfl⟩
    have hc : c ∈ l := List.mem_of_getElem? (zipIdx_get hq)
    have hsq : (dSeq (dSl sliceD (dVar 1) (dP (dBin addD (dVar 2) (dC (.int 1)))) dNoP)) [some (.fr (ordD o)), some (.fr d), some (.fr (eN i)), some (.fr (eN c)), none] = .ok ((l.drop (i + 1)).map eN) := by
      rcases hd with rfl | rfl
      · show R.of (some (cutD (l.map eN) (some ((i : Int) + 1)) none)) = _
        rw [cut_drop, ← List.map_drop]; rfl
      · show R.of (some (cutD (l.map eN) (some ((i : Int) + 1)) none)) = _
        rw [cut_drop, ← List.map_drop]; rfl
    have hlc := dLc_e (en := eN) (vs := [4]) (b := dTg1 4) (gs := dSeq (dSl sliceD (dVar 1) (dP (dBin addD (dVar 2) (dC (.int 1)))) dNoP)) (t := dTru (dCall D_blocks (dCons (dVarF 0) (dCons (dVarF 3) (dCons (dVarF 4) dNil))))) (e := dVarF 4) (ρ := [some (.fr (ordD o)), some (.fr d), some (.fr (eN i)), some (.fr (eN c)), none]) (fun x => inw o c x) eN (l.drop (i + 1)) hsq (by rw [List.length_drop]; unfold lim; omega) (fun x hx => by
      have hx' : x ∈ l := List.mem_of_mem_drop hx
      refine ⟨[some (.fr (ordD o)), some (.fr d), some (.fr (eN i)), some (.fr (eN c)), some (.fr (eN x))], rfl, ?_, fun _ => rfl⟩
      simp only [dTru_s, dCall_s, dCons_s, dNil_s, dVarF, R.bind_ok, List.getElem?_cons_succ, List.getElem?_cons_zero, blocks_e (hl c hc) (hl x hx'), R.of_some, truB_s])
    have ht : (dTru (dLc [4] (dTg1 4) (dSeq (dSl sliceD (dVar 1) (dP (dBin addD (dVar 2) (dC (.int 1)))) dNoP)) (dTru (dCall D_blocks (dCons (dVarF 0) (dCons (dVarF 3) (dCons (dVarF 4) dNil))))) (dVarF 4))) [some (.fr (ordD o)), some (.fr d), some (.fr (eN i)), some (.fr (eN c)), none] = .ok ((l.drop (i + 1)).any fun b => inw o c b) := by
      rw [dTru_s, hlc]
      simp only [R.bind_ok, truL_s, R.of_some]
      refine congrArg R.ok ?_
      rw [List.isEmpty_map]
      generalize l.drop (i + 1) = m
      induction m with
      | nil => rfl
      | cons x m ih =>
        rw [List.filter_cons, List.any_cons]
        cases hx : inw o c x with
        | true => simp
        | false => simpa using ih
    refine ⟨[some (.fr (ordD o)), some (.fr d), some (.fr (eN i)), some (.fr (eN c)), none], rfl, fun hb => ?_, fun hb => ?_⟩
    · rw [ifS_e ht]
      have hb : ((l.drop (i + 1)).any fun b => inw o c b) = true := hb
      rw [hb]; rfl
    · rw [ifS_e ht]
      have hb : ((l.drop (i + 1)).any fun b => inw o c b) = false := hb
      rw [hb]; exact ⟨_, rfl, _, _, rfl⟩
  refine fn_rt ?_
  show dThen _ _ [some (.fr (ordD o)), some (.fr d), none, none, none] = _
  rcases for_find (en := eI) (fun q => (l.drop (q.2 + 1)).any fun b => inw o q.1 b) (.bool false) (fun ρ => ∃ s2 s3, ρ = ([some (.fr (ordD o)), some (.fr d), s2, s3, none] : Rho)) l.zipIdx [some (.fr (ordD o)), some (.fr d), none, none, none] ⟨none, none, rfl⟩ step with ⟨h1, h2⟩ | ⟨h1, ρ', h2, h3⟩
  · rw [then_rt ((for_e hen).trans h2)]
    rw [drop_any hup] at h1
    unfold freeB
    rw [h1]; rfl
  · rw [then_nx ((for_e hen).trans h2)]
    rw [drop_any hup] at h1
    unfold freeB
    rw [h1]; rfl
theorem freeB_iff {o l : List Nat} : freeB o l = true ↔ ∀ x ∈ l, ∀ y ∈ l, inw o x y = false := by
  unfold freeB
  rw [Bool.not_eq_true', List.any_eq_false]
  constructor
  · intro h x hx y hy
    have := h x hx
    rw [Bool.not_eq_true, List.any_eq_false] at this
    simpa using this y hy
  · intro h x hx
    rw [Bool.not_eq_true, List.any_eq_false]
    intro y hy
    simpa using h x hx y hy
theorem is_free_e {o l : List Nat} (hl : ∀ x ∈ l, x ∈ o) (hz : l.length ≤ 1000) (hup : l.Pairwise (· < ·)) (hf : ∀ x ∈ l, ∀ y ∈ l, inw o x y = false) : D_is_free_of [ordD o, eT l] = .ok (.bool true) := by
  rw [free_of_e (.inr rfl) hl hz hup, freeB_iff.mpr hf]
/-! ### are_lanes_of -/
theorem listRg_e {n : Nat} (h : n ≤ 1000000) : listRg (eN n) = some (.list ((List.range n).map eN)) := by
  show (if smallI (n : Int) = true then some (PyData.list (rngD 0 (n : Int))) else none) = _
  rw [if_pos (small_of (by omega)), rng0]
theorem extU_e {i : Nat} {g : Rho → RE PyData} {ρ : Rho} {ds es : List PyData} (hi : ρ[i]? = some (some (.ow ds))) (h : g ρ = .ok (.tuple es)) (hl : ds.length + es.length ≤ lim) : dExt i g ρ = .ok (.nx (ρ.set i (some (.ow (ds ++ es))))) := by
  unfold dExt atOw
  rw [hi]
  exact (stE_ok h).trans (if_pos hl)
theorem isiT_e (l : List PyData) : isiD "tuple" (.tuple l) = some (.bool true) := by simp [isiD, dTy]
theorem filt_f {α : Type} (l : List α) : l.filter (fun _ => false) = [] := List.filter_eq_nil_iff.mpr fun _ _ h => by cases h
theorem srt_range {l : List Nat} {n : Nat} (h : l.Perm (List.range n)) : srt l = List.range n := srt_eq h.symm (List.pairwise_lt_range.imp fun h => Nat.le_of_lt h)
theorem srt_up {l : List Nat} (h : l.Pairwise (· < ·)) : srt l = l := srt_eq (.refl _) (h.imp fun h => Nat.le_of_lt h)
theorem idx0_e {l : List Nat} (h : l ≠ []) : idxD (eT l) (.int 0) = some (eN (l.headD 0)) := by
  cases l with
  | nil => exact absurd rfl h
  | cons x l => exact idxU_e (k := 0) rfl
theorem neL_same (l : List Nat) : neD (.list (l.map eN)) (.list (l.map eN)) = some (.bool false) := by
  have := neD_d (α := List Nat) (by decide) l l
  rw [decide_eq_true rfl] at this
  exact this
theorem eqL_same (l : List Nat) : eqD (.list (l.map eN)) (.list (l.map eN)) = some (.bool true) := by
  have := eqD_d (α := List Nat) (by decide) l l
  rw [decide_eq_true rfl] at this
  exact this
theorem are_lanes_of_e {o : List Nat} (h : Ord o) {ls : List (List Nat)} (L : Ln o o.length ls) : D_are_lanes_of [ordD o, lanD ls] = .ok (.bool true) := by
  have hhi := h.hi
  have hlen := L.len
  have hlim : ls.length ≤ lim := by unfold lim; omega
  have hfl : ls.flatten.length = o.length := by rw [L.pm.length_eq, List.length_range]
  have l1 := dLc_e (en := eT) (vs := [3]) (b := dTg1 3) (gs := dSeq (dVar 1)) (t := dOr (dNot (dTru (dUn (isiD "tuple") (dVar 3)))) (dNot (dTru (dVar 3)))) (e := dVarF 3) (ρ := [some (.fr (ordD o)), some (.fr (lanD ls)), none, none, none, none]) (fun _ => false) eT ls rfl hlim (fun l hl => by
    refine ⟨[some (.fr (ordD o)), some (.fr (lanD ls)), none, some (.fr (eT l)), none, none], rfl, ?_, fun z => by cases z⟩
    have hne : (l.map eN).isEmpty = false := by
      have := L.ne l hl
      cases l with
      | nil => exact absurd rfl this
      | cons x l => rfl
    simp only [dOr_s, dNot_s, dTru_s, dUn_s, dVar, SV.dat, R.bind_ok, List.getElem?_cons_succ, List.getElem?_cons_zero, isiT_e, R.of_some, truB_s, truU_s, hne, Bool.not_true, Bool.not_false, cond_false])
  rw [filt_f] at l1
  have := rt_fn (n := 6) (ks := [true, true]) (ds := [ordD o, lanD ls]) (G := G_are_lanes_of) (T := fun d => d = .bool true) (rt_no (by
      show dOr _ _ [some (.fr (ordD o)), some (.fr (lanD ls)), none, none, none, none] = _
      rw [dOr_s, dTru_s (ga := dLc _ _ _ _ _), l1]
      simp only [dNot_s, dTru_s, dUn_s, dVar, SV.dat, R.bind_ok, List.getElem?_cons_succ, List.getElem?_cons_zero, isiT_e, R.of_some, truB_s, Bool.not_true, cond_false, truL_s, List.map_nil, List.isEmpty_nil]) (rt_setN (ds := []) rfl (rt_for (α := List Nat) (en := eT) (fun p ρ => ∃ s3, ρ = [some (.fr (ordD o)), some (.fr (lanD ls)), some (.ow (p.flatten.map eN)), s3, none, none]) ls rfl ⟨none, rfl⟩ (by
    rintro p l q ρ hp ⟨s3, rfl⟩
    refine ⟨[some (.fr (ordD o)), some (.fr (lanD ls)), some (.ow (p.flatten.map eN)), some (.fr (eT l)), none, none], _, rfl, extU_e (ds := p.flatten.map eN) (es := l.map eN) rfl rfl ?_, some (.fr (eT l)), ?_⟩
    · rw [hp, List.flatten_append, List.flatten_cons, List.length_append, List.length_append] at hfl
      simp only [List.length_map]
      unfold lim
      omega
    · simp) (by
    rintro ρ' ⟨s3, rfl⟩
    have l2 := dLc_e (en := eN) (vs := [5]) (b := dTg1 5) (gs := dSeq (dVar 2)) (t := dNot (dTru (dCall D_in_range (dCons (dVarF 5) (dCons (dC (.int 0)) (dCons (dBin subD (dUn lenD (dVar 0)) (dC (.int 1))) dNil)))))) (e := dVarF 5) (ρ := [some (.fr (ordD o)), some (.fr (lanD ls)), some (.ow (ls.flatten.map eN)), s3, none, none]) (fun _ => false) eN ls.flatten rfl (by unfold lim; omega) (fun x hx => by
      have hx' := List.mem_range.mp (L.pm.mem_iff.mp hx)
      refine ⟨[some (.fr (ordD o)), some (.fr (lanD ls)), some (.ow (ls.flatten.map eN)), s3, none, some (.fr (eN x))], rfl, ?_, fun z => by cases z⟩
      have e1 : (decide ((0 : Int) ≤ (x : Int)) && decide ((x : Int) ≤ (o.length : Int) - 1)) = true := by
        rw [Bool.and_eq_true]; exact ⟨decide_eq_true (by omega), decide_eq_true (by omega)⟩
      simp only [dNot_s, dTru_s, dCall_s, dCons_s, dNil_s, dC_s, dBin_s, dUn_s, dVar, dVarF, SV.dat, R.bind_ok, List.getElem?_cons_succ, List.getElem?_cons_zero, lenU_s, List.length_map, R.of_some, subI_s, in_range_e, e1, truB_s, Bool.not_true])
    rw [filt_f] at l2
    have l3 := dLc_e (en := eT) (vs := [3]) (b := dTg1 3) (gs := dSeq (dVar 1)) (t := dTest (dBin neD (dUn listD (dVar 3)) (dUn sortD (dVar 3)))) (e := dVarF 3) (ρ := [some (.fr (ordD o)), some (.fr (lanD ls)), some (.ow (ls.flatten.map eN)), s3, none, none]) (fun _ => false) eT ls rfl hlim (fun l hl => by
      refine ⟨[some (.fr (ordD o)), some (.fr (lanD ls)), some (.ow (ls.flatten.map eN)), some (.fr (eT l)), none, none], rfl, dTest_ok ?_, fun z => by cases z⟩
      have := L.llen hl
      simp only [dBin_s, dUn_s, dVar, SV.dat, R.bind_ok, List.getElem?_cons_succ, List.getElem?_cons_zero, lstU_s, sortU_e (show l.length ≤ lim by unfold lim; omega), srt_up (L.up l hl), R.of_some, neL_same])
    rw [filt_f] at l3
    have l4 := dLc_e (en := eT) (vs := [3]) (b := dTg1 3) (gs := dSeq (dVar 1)) (t := dYes) (e := dBin idxD (dVar 3) (dC (.int 0))) (ρ := [some (.fr (ordD o)), some (.fr (lanD ls)), some (.ow (ls.flatten.map eN)), s3, none, none]) (fun _ => true) (fun l => eN (l.headD 0)) ls rfl hlim (fun l hl => by
      refine ⟨[some (.fr (ordD o)), some (.fr (lanD ls)), some (.ow (ls.flatten.map eN)), some (.fr (eT l)), none, none], rfl, rfl, fun _ => ?_⟩
      simp only [dBin_s, dC_s, dVar, SV.dat, R.bind_ok, List.getElem?_cons_succ, List.getElem?_cons_zero, idx0_e (L.ne l hl), R.of_some])
    rw [filt_t, show ls.map (fun l => eN (l.headD 0)) = (ls.map fun l => l.headD 0).map eN by rw [List.map_map]; rfl] at l4
    have l5 := dLc_e (en := eT) (vs := [3]) (b := dTg1 3) (gs := dSeq (dVar 1)) (t := dNot (dTru (dCall D_is_free_of (dCons (dVarF 0) (dCons (dVarF 3) dNil))))) (e := dVarF 3) (ρ := [some (.fr (ordD o)), some (.fr (lanD ls)), some (.ow (ls.flatten.map eN)), s3, some (.fr (.list ((ls.map fun l => l.headD 0).map eN))), none]) (fun _ => false) eT ls rfl hlim (fun l hl => by
      refine ⟨[some (.fr (ordD o)), some (.fr (lanD ls)), some (.ow (ls.flatten.map eN)), some (.fr (eT l)), some (.fr (.list ((ls.map fun l => l.headD 0).map eN))), none], rfl, ?_, fun z => by cases z⟩
      have := L.llen hl
      simp only [dNot_s, dTru_s, dCall_s, dCons_s, dNil_s, dVarF, R.bind_ok, List.getElem?_cons_succ, List.getElem?_cons_zero, is_free_e (fun x hx => h.lt.mpr (L.lt hl hx)) (show l.length ≤ 1000 by omega) (L.up l hl) (L.no l hl), R.of_some, truB_s, Bool.not_true])
    rw [filt_f] at l5
    refine rt_no ?_ (rt_no ?_ (rt_set l4 (rt_ret (d := .bool true) ?_ rfl)))
    · rw [dTru_s, l2]; rfl
    · have e1 : (dTest (dBin neD (dUn sortD (dVar 2)) (dUn listRg (dUn lenD (dVar 0))))) [some (.fr (ordD o)), some (.fr (lanD ls)), some (.ow (ls.flatten.map eN)), s3, none, none] = .ok false := by
        refine dTest_ok ?_
        simp only [dBin_s, dUn_s, dVar, SV.dat, R.bind_ok, List.getElem?_cons_succ, List.getElem?_cons_zero, sortL_e (show ls.flatten.length ≤ lim by unfold lim; omega), srt_range L.pm, lenU_s, List.length_map, listRg_e (show o.length ≤ 1000000 by omega), R.of_some, neL_same]
      rw [dOr_s, e1, R.bind_ok, cond_false, dTru_s, l3]
      rfl
    · show dAndV _ _ [some (.fr (ordD o)), some (.fr (lanD ls)), some (.ow (ls.flatten.map eN)), s3, some (.fr (.list ((ls.map fun l => l.headD 0).map eN))), none] = _
      rw [dAndV_s, dNotV_s, l5]
      simp only [dBin_s, dUn_s, dVar, SV.dat, R.bind_ok, List.getElem?_cons_succ, List.getElem?_cons_zero, sortL_e (show (ls.map fun l => l.headD 0).length ≤ lim by rw [List.length_map]; exact hlim), srt_up (show (ls.map fun l => l.headD 0).Pairwise (· < ·) from L.hd), R.of_some, eqL_same, truB_s, cond_true, truL_s, List.map_nil, List.isEmpty_nil, Bool.not_true, Bool.not_false]))))
  obtain ⟨d, e, rfl⟩ := this
  exact e
end Dl
end
section
set_option Elab.async false
set_option linter.all false
set_option autoImplicit false
set_option maxRecDepth 100000
namespace Dl
open PySem L2 VS
/-! ### one moved car -/
abbrev Lns := List (List Nat)
def del (A : List Nat) (c : Nat) : List Nat := A.filter fun x => !decide (x = c)
def ins (B : List Nat) (c : Nat) : List Nat := srt (B ++ [c])
def rowsOf (ls : Lns) (p g : Nat) (x y : List Nat) : Lns := (ls.set p x).set g y
def okC (o A : List Nat) (p c : Nat) (r : List Nat × Nat) : Bool := !decide (r.2 = p) && (!(del A c).isEmpty && freeB o (ins r.1 c))
def cand1 (o : List Nat) (ls : Lns) (p : Nat) (A : List Nat) (c : Nat) (r : List Nat × Nat) : List Lns := if okC o A p c r = true then [srtH (rowsOf ls p r.2 (del A c) (ins r.1 c))] else []
def cand2 (o : List Nat) (ls : Lns) (p : Nat) (A : List Nat) (c : Nat) : List Lns := ls.zipIdx.flatMap (cand1 o ls p A c)
def cand3 (o : List Nat) (ls : Lns) (q : List Nat × Nat) : List Lns := q.1.flatMap (cand2 o ls q.2 q.1)
def cands (o : List Nat) (ls : Lns) : List Lns := ls.zipIdx.flatMap (cand3 o ls)
theorem mem_cands {o : List Nat} {ls x : Lns} : x ∈ cands o ls ↔ ∃ p g A B c, ls[p]? = some A ∧ ls[g]? = some B ∧ g ≠ p ∧ c ∈ A ∧ del A c ≠ [] ∧ freeB o (ins B c) = true ∧ x = srtH (rowsOf ls p g (del A c) (ins B c)) := by
  unfold cands cand3 cand2 cand1
  constructor
  · intro h
    obtain ⟨q, hq, h⟩ := List.mem_flatMap.mp h
    obtain ⟨c, hc, h⟩ := List.mem_flatMap.mp h
    obtain ⟨r, hr, h⟩ := List.mem_flatMap.mp h
    split at h
    · rename_i hk
      unfold okC at hk
      simp only [Bool.and_eq_true, Bool.not_eq_true', decide_eq_false_iff_not, List.isEmpty_eq_false_iff] at hk
      exact ⟨q.2, r.2, q.1, r.1, c, zipIdx_get hq, zipIdx_get hr, hk.1, hc, hk.2.1, hk.2.2, List.mem_singleton.mp h⟩
    · cases h
  · rintro ⟨p, g, A, B, c, hA, hB, hpg, hc, hn, hf, rfl⟩
    refine List.mem_flatMap.mpr ⟨(A, p), List.mem_zipIdx_iff_getElem?.mpr hA, List.mem_flatMap.mpr ⟨c, hc, List.mem_flatMap.mpr ⟨(B, g), List.mem_zipIdx_iff_getElem?.mpr hB, ?_⟩⟩⟩
    rw [if_pos]
    · simp
    · unfold okC
      simp only [Bool.and_eq_true, Bool.not_eq_true', decide_eq_false_iff_not, List.isEmpty_eq_false_iff]
      exact ⟨hpg, hn, hf⟩
theorem set1 : ∀ {ls : Lns} {p : Nat} {A : List Nat}, ls[p]? = some A → ∃ M, ls.Perm (A :: M) ∧ ∀ x, (ls.set p x).Perm (x :: M)
  | [], p, A, h => by simp at h
  | z :: ls, 0, A, h => by
    simp at h
    subst h
    exact ⟨ls, .refl _, fun x => .refl _⟩
  | z :: ls, p + 1, A, h => by
    obtain ⟨M, h1, h2⟩ := set1 (p := p) (show ls[p]? = some A by simpa using h)
    exact ⟨z :: M, (h1.cons z).trans (.swap ..), fun x => ((h2 x).cons z).trans (.swap ..)⟩
theorem set2 : ∀ {ls : Lns} {p g : Nat} {A B : List Nat}, ls[p]? = some A → ls[g]? = some B → g ≠ p → ∃ M, ls.Perm (A :: B :: M) ∧ ∀ x y, (rowsOf ls p g x y).Perm (x :: y :: M)
  | [], p, g, A, B, h, _, _ => by simp at h
  | z :: ls, 0, 0, A, B, _, _, hn => absurd rfl hn
  | z :: ls, 0, g + 1, A, B, hA, hB, _ => by
    simp at hA
    subst hA
    obtain ⟨M, h1, h2⟩ := set1 (p := g) (show ls[g]? = some B by simpa using hB)
    exact ⟨M, h1.cons z, fun x y => (h2 y).cons x⟩
  | z :: ls, p + 1, 0, A, B, hA, hB, _ => by
    simp at hB
    subst hB
    obtain ⟨M, h1, h2⟩ := set1 (p := p) (show ls[p]? = some A by simpa using hA)
    exact ⟨M, (h1.cons z).trans (.swap ..), fun x y => ((h2 x).cons y).trans (.swap ..)⟩
  | z :: ls, p + 1, g + 1, A, B, hA, hB, hn => by
    obtain ⟨M, h1, h2⟩ := set2 (p := p) (g := g) (show ls[p]? = some A by simpa using hA) (show ls[g]? = some B by simpa using hB) (by omega)
    refine ⟨z :: M, (h1.cons z).trans ?_, fun x y => ((h2 x y).cons z).trans ?_⟩
    · exact (List.Perm.swap A z _).trans ((List.Perm.swap B z _).cons A)
    · exact (List.Perm.swap x z _).trans ((List.Perm.swap y z _).cons x)
theorem lt_of_le_nd : ∀ {l : List Nat}, l.Pairwise (· ≤ ·) → l.Nodup → l.Pairwise (· < ·)
  | [], _, _ => .nil
  | x :: l, h, hn => by
    obtain ⟨h1, h2⟩ := List.pairwise_cons.mp h
    obtain ⟨n1, n2⟩ := List.nodup_cons.mp hn
    refine List.pairwise_cons.mpr ⟨fun y hy => ?_, lt_of_le_nd h2 n2⟩
    have := h1 y hy
    have : x ≠ y := fun e => n1 (e ▸ hy)
    omega
theorem up_eq {l m : List Nat} (h : l.Perm m) (hl : l.Pairwise (· < ·)) (hm : m.Pairwise (· < ·)) : l = m :=
  h.eq_of_pairwise (le := (· < ·)) (fun a b _ _ h1 h2 => by omega) hl hm
theorem ins_perm (B : List Nat) (c : Nat) : (ins B c).Perm (c :: B) := (srt_perm _).trans (List.perm_append_singleton _ _)
theorem del_perm {A : List Nat} {c : Nat} (hn : A.Nodup) (hc : c ∈ A) : A.Perm (c :: del A c) := by
  refine (List.perm_ext_iff_of_nodup hn (List.nodup_cons.mpr ⟨fun h => ?_, hn.filter _⟩)).mpr fun x => ?_
  · have := (List.mem_filter.mp h).2
    simp at this
  · rw [List.mem_cons, List.mem_filter]
    constructor
    · intro hx
      by_cases e : x = c
      · exact .inl e
      · exact .inr ⟨hx, by simp [e]⟩
    · rintro (rfl | h)
      · exact hc
      · exact h.1
theorem not_del (A : List Nat) (c : Nat) : c ∉ del A c := fun h => by
  have := (List.mem_filter.mp h).2
  simp at this
theorem up_nd {l : List Nat} (h : l.Pairwise (· < ·)) : l.Nodup := h.imp fun h => Nat.ne_of_lt h
section
variable {o : List Nat} {k : Nat} {ls x : Lns}
/-- what one moved car leads to -/
theorem move_ok (L : Ln o k ls) (hx : x ∈ cands o ls) : Ln o k x ∧ x.length = ls.length ∧ ls ∈ cands o x := by
  obtain ⟨p, g, A, B, c, hA, hB, hpg, hc, hn, hf, rfl⟩ := mem_cands.mp hx
  obtain ⟨M, h1, h2⟩ := set2 hA hB hpg
  have h3 := h2 (del A c) (ins B c)
  have mA := List.mem_of_getElem? hA
  have mB := List.mem_of_getElem? hB
  have mM : ∀ l ∈ M, l ∈ ls := fun l hl => h1.mem_iff.mpr (by simp [hl])
  have hfl : (A ++ (B ++ M.flatten)).Perm (List.range k) := by
    have := h1.flatten.symm.trans L.pm
    rwa [List.flatten_cons, List.flatten_cons] at this
  have hnd : (A ++ (B ++ M.flatten)).Nodup := hfl.nodup_iff.mpr List.nodup_range
  have cB : c ∉ B := fun h => (List.nodup_append.mp hnd).2.2 c hc c (List.mem_append_left _ h) rfl
  have pA := del_perm (up_nd (L.up A mA)) hc
  have pB := ins_perm B c
  have upA' : (del A c).Pairwise (· < ·) := (L.up A mA).filter _
  have ndB' : (ins B c).Nodup := pB.nodup_iff.mpr (List.nodup_cons.mpr ⟨cB, up_nd (L.up B mB)⟩)
  have upB' : (ins B c).Pairwise (· < ·) := lt_of_le_nd (srt_pw _) ndB'
  have rowm : ∀ l ∈ rowsOf ls p g (del A c) (ins B c), l = del A c ∨ l = ins B c ∨ l ∈ M := fun l hl => by simpa using h3.mem_iff.mp hl
  have neB' : ins B c ≠ [] := fun e => by rw [e] at pB; exact absurd pB.length_eq (by simp)
  have Lx : Ln o k (srtH (rowsOf ls p g (del A c) (ins B c))) := by
    refine Ln.sort ?_ ?_ ?_ ?_
    · refine h3.flatten.trans (List.Perm.trans ?_ hfl)
      rw [List.flatten_cons, List.flatten_cons]
      refine List.Perm.trans ?_ (pA.symm.append_right _)
      refine (List.Perm.append_left _ (pB.append_right _)).trans ?_
      exact List.perm_middle
    · intro l hl
      rcases rowm l hl with rfl | rfl | h
      · exact hn
      · exact neB'
      · exact L.ne l (mM l h)
    · intro l hl
      rcases rowm l hl with rfl | rfl | h
      · exact upA'
      · exact upB'
      · exact L.up l (mM l h)
    · intro l hl
      rcases rowm l hl with rfl | rfl | h
      · exact fun a ha b hb => L.no A mA a (List.mem_filter.mp ha).1 b (List.mem_filter.mp hb).1
      · exact freeB_iff.mp hf
      · exact L.no l (mM l h)
  refine ⟨Lx, ?_, ?_⟩
  · rw [(srtH_perm _).length_eq]
    unfold rowsOf
    rw [List.length_set, List.length_set]
  · have px := (srtH_perm (rowsOf ls p g (del A c) (ins B c))).trans h3
    generalize srtH (rowsOf ls p g (del A c) (ins B c)) = x at *
    obtain ⟨p', hp', ep⟩ := List.getElem_of_mem (px.mem_iff.mpr (show ins B c ∈ _ by simp))
    obtain ⟨g', hg', eg⟩ := List.getElem_of_mem (px.mem_iff.mpr (show del A c ∈ _ by simp))
    have xp : x[p']? = some (ins B c) := by rw [List.getElem?_eq_getElem hp', ep]
    have xg : x[g']? = some (del A c) := by rw [List.getElem?_eq_getElem hg', eg]
    have cB' : c ∈ ins B c := pB.mem_iff.mpr (by simp)
    have hgp : g' ≠ p' := fun e => by
      rw [e, xp] at xg
      have := Option.some.inj xg
      exact not_del A c (this ▸ cB')
    have e1 : del (ins B c) c = B := by
      refine up_eq ?_ (upB'.filter _) (L.up B mB)
      have := del_perm ndB' cB'
      exact (this.symm.trans pB).cons_inv
    have e2 : ins (del A c) c = A := srt_eq (pA.trans (List.perm_append_singleton _ _).symm) ((L.up A mA).imp fun h => Nat.le_of_lt h)
    refine mem_cands.mpr ⟨p', g', ins B c, del A c, c, xp, xg, hgp, cB', by rw [e1]; exact L.ne B mB, by rw [e2]; exact freeB_iff.mpr (L.no A mA), ?_⟩
    rw [e1, e2]
    obtain ⟨M', q1, q2⟩ := set2 xp xg hgp
    have pM : M'.Perm M := by
      have := (q1.symm.trans px).trans (List.Perm.swap ..)
      exact this.cons_inv.cons_inv
    refine (srtH_eq ?_ L.hd).symm
    refine (h1.trans ?_).trans (q2 B A).symm
    exact (List.Perm.swap ..).trans ((pM.symm.cons A).cons B)
/-- how many -/
theorem cand1_len (p : Nat) (A : List Nat) (c : Nat) (r : List Nat × Nat) : (cand1 o ls p A c r).length ≤ 1 := by
  unfold cand1
  split
  · exact Nat.le_refl _
  · exact Nat.zero_le _
theorem cand2_len (p : Nat) (A : List Nat) (c : Nat) : (cand2 o ls p A c).length ≤ ls.length := by
  have := flat_len (f := cand1 o ls p A c) (B := 1) (l := ls.zipIdx) fun r _ => cand1_len p A c r
  rw [List.length_zipIdx, Nat.mul_one] at this
  exact this
theorem cand3_len (q : List Nat × Nat) : (cand3 o ls q).length ≤ q.1.length * ls.length := flat_len fun c _ => cand2_len q.2 q.1 c
theorem sum_len {f : List Nat × Nat → List Lns} {m : Nat} : ∀ {l : Lns} {n : Nat}, (∀ q, (f q).length ≤ q.1.length * m) → ((l.zipIdx n).flatMap f).length ≤ l.flatten.length * m
  | [], _, _ => by simp
  | a :: l, n, h => by
    have h1 := h (a, n)
    have h2 := sum_len (l := l) (n := n + 1) h
    rw [List.zipIdx_cons, List.flatMap_cons, List.length_append, List.flatten_cons, List.length_append, Nat.add_mul]
    exact Nat.add_le_add h1 h2
theorem cands_len (L : Ln o k ls) : (cands o ls).length ≤ k * k := by
  have := sum_len (f := cand3 o ls) (m := ls.length) (l := ls) (n := 0) cand3_len
  rw [L.fl] at this
  exact Nat.le_trans this (Nat.mul_le_mul_left _ L.len)
end
/-! ### without doubles -/
def kput (K : List Lns) (x : Lns) : List Lns := if x ∈ K then K else K ++ [x]
theorem kput_len (K : List Lns) (x : Lns) : (kput K x).length ≤ K.length + 1 := by
  unfold kput
  split
  · omega
  · simp
theorem kfold_len : ∀ (xs K : List Lns), (xs.foldl kput K).length ≤ K.length + xs.length
  | [], K => Nat.le_refl _
  | x :: xs, K => by
    have h1 := kfold_len xs (kput K x)
    have h2 := kput_len K x
    rw [List.foldl_cons, List.length_cons]
    omega
theorem kput_mem {K : List Lns} {x y : Lns} : y ∈ kput K x ↔ y ∈ K ∨ y = x := by
  unfold kput
  split
  · rename_i h
    exact ⟨.inl, fun z => z.elim id fun e => e ▸ h⟩
  · simp
theorem kput_nd {K : List Lns} {x : Lns} (h : K.Nodup) : (kput K x).Nodup := by
  unfold kput
  split
  · exact h
  · rename_i hx
    refine List.nodup_append.mpr ⟨h, by simp, fun a ha b hb e => hx ?_⟩
    rw [← List.mem_singleton.mp hb, ← e]; exact ha
theorem kfold_mem {y : Lns} : ∀ (xs K : List Lns), y ∈ xs.foldl kput K ↔ y ∈ K ∨ y ∈ xs
  | [], K => by simp
  | x :: xs, K => by
    rw [List.foldl_cons, kfold_mem xs, kput_mem, List.mem_cons, or_assoc]
theorem kfold_nd : ∀ (xs : List Lns) {K : List Lns}, K.Nodup → (xs.foldl kput K).Nodup
  | [], K, h => h
  | x :: xs, K, h => kfold_nd xs (kput_nd h)
def ddupA : List Lns → List Lns
  | [] => []
  | x :: xs => if x ∈ xs then ddupA xs else x :: ddupA xs
theorem mem_ddupA {y : Lns} : ∀ {xs : List Lns}, y ∈ ddupA xs ↔ y ∈ xs
  | [] => Iff.rfl
  | x :: xs => by
    unfold ddupA
    split
    · rename_i h
      rw [mem_ddupA, List.mem_cons]
      exact ⟨.inr, fun z => z.elim (fun e => e ▸ h) id⟩
    · rw [List.mem_cons, List.mem_cons, mem_ddupA]
theorem nodup_ddupA : ∀ xs : List Lns, (ddupA xs).Nodup
  | [] => List.nodup_nil
  | x :: xs => by
    unfold ddupA
    split
    · exact nodup_ddupA xs
    · rename_i h
      exact List.nodup_cons.mpr ⟨fun z => h (mem_ddupA.mp z), nodup_ddupA xs⟩
theorem ddupA_len : ∀ xs : List Lns, (ddupA xs).length ≤ xs.length
  | [] => Nat.le_refl _
  | x :: xs => by
    have := ddupA_len xs
    unfold ddupA
    split
    · exact Nat.le_succ_of_le this
    · exact Nat.succ_le_succ this
/-- the arrangements that one moved car leads to -/
def nb (o : List Nat) (ls : Lns) : List Lns := srtA (ddupA (cands o ls))
theorem mem_nb {o : List Nat} {ls x : Lns} : x ∈ nb o ls ↔ x ∈ cands o ls := by
  unfold nb
  rw [(srtA_perm _).mem_iff, mem_ddupA]
theorem nb_fold (o : List Nat) (ls : Lns) : srtA ((cands o ls).foldl kput []) = nb o ls := by
  refine srtA_eq ((List.perm_ext_iff_of_nodup (kfold_nd _ .nil) (nodup_ddupA _)).mpr fun x => ?_)
  rw [kfold_mem, mem_ddupA]
  simp
theorem nb_len {o : List Nat} {k : Nat} {ls : Lns} (L : Ln o k ls) : (nb o ls).length ≤ k * k := by
  unfold nb
  rw [(srtA_perm _).length_eq]
  exact Nat.le_trans (ddupA_len _) (cands_len L)
end Dl
end
section
set_option Elab.async false
set_option linter.all false
set_option autoImplicit false
set_option maxRecDepth 100000
namespace Dl
open PySem L2 VS
/-! ### arrangements as keys -/
def keyL (l : List Nat) : NestedKey := .tup (l.map fun (n : Nat) => NestedKey.num (n : Int))
def keyA (x : Lns) : NestedKey := .tup (x.map keyL)
theorem nks_nat : ∀ l : List Nat, nksOf (l.map eN) = some (l.map fun (n : Nat) => NestedKey.num (n : Int))
  | [] => rfl
  | n :: l => by rw [List.map_cons, nksOf, nks_nat l]; rfl
theorem nk_eT (l : List Nat) : nkOf (eT l) = some (keyL l) := by
  rw [nkOf, nks_nat]; rfl
theorem nks_lan : ∀ x : Lns, nksOf (x.map eT) = some (x.map keyL)
  | [] => rfl
  | l :: x => by rw [List.map_cons, nksOf, nk_eT, nks_lan x]; rfl
theorem nk_lan (x : Lns) : nkOf (lanD x) = some (keyA x) := by
  rw [nkOf, nks_lan]; rfl
theorem nks_lans : ∀ xs : List Lns, nksOf (xs.map lanD) = some (xs.map keyA)
  | [] => rfl
  | x :: xs => by rw [List.map_cons, nksOf, nk_lan, nks_lans xs]; rfl
theorem dep_nat : ∀ l : List Nat, NestedKey.depthAll (l.map fun (n : Nat) => NestedKey.num (n : Int)) = 0
  | [] => rfl
  | n :: l => by rw [List.map_cons, NestedKey.depthAll, dep_nat l]; rfl
theorem dep_lan : ∀ x : Lns, NestedKey.depthAll (x.map keyL) ≤ 1
  | [] => Nat.zero_le _
  | l :: x => by
    rw [List.map_cons, NestedKey.depthAll, keyL, NestedKey.depth, dep_nat]
    have := dep_lan x
    omega
theorem dep_key (x : Lns) : (keyA x).depth ≤ 8 := by
  rw [keyA, NestedKey.depth]
  have := dep_lan x
  omega
theorem keyL_inj {a b : List Nat} (h : keyL a = keyL b) : a = b := by
  unfold keyL at h
  injection h with h
  refine map_inj (fun x y e => ?_) h
  injection e with e
  omega
theorem keyA_inj {a b : Lns} (h : keyA a = keyA b) : a = b := by
  unfold keyA at h
  injection h with h
  exact map_inj (fun x y e => keyL_inj e) h
theorem keyA_data (x : Lns) : (keyA x).data = lanD x := (nkOf_data _ _ (nk_lan x)).1
theorem kOf_lan (x : Lns) : kOf (lanD x) = some (keyA x) := by
  show (nkOf (lanD x)).bind (fun k => if k.depth ≤ 8 then some k else none) = _
  rw [nk_lan]
  exact if_pos (dep_key x)
/-! ### dicts with arrangements as keys -/
abbrev Kv := List (Lns × PyData)
def dnE (K : Kv) : List (PyData × PyData) := K.map fun p => (lanD p.1, p.2)
def lk (K : Kv) (x : Lns) : Option PyData := (K.find? fun p => decide (p.1 = x)).map (·.2)
def pput (K : Kv) (x : Lns) (v : PyData) : Kv := if (lk K x).isSome = true then K.map fun p => if p.1 = x then (p.1, v) else p else K ++ [(x, v)]
theorem look_e (x : Lns) : ∀ K : Kv, lookN (dnE K) (keyA x) = lk K x
  | [] => rfl
  | p :: K => by
    have ih := look_e x K
    unfold lookN dnE lk at *
    rw [List.map_cons, List.find?_cons, List.find?_cons]
    have e : decide (nkOf (lanD p.1) = some (keyA x)) = decide (p.1 = x) := by
      rw [nk_lan]
      exact decide_eq_decide.mpr ⟨fun h => keyA_inj (Option.some.inj h), fun h => by rw [h]⟩
    show Option.map _ (match decide (nkOf (lanD p.1) = some (keyA x)) with | true => some (lanD p.1, p.2) | false => _) = _
    rw [e]
    cases decide (p.1 = x) with
    | true => rfl
    | false => exact ih
theorem put_d (K : Kv) (x : Lns) (v : PyData) : putD (dnE K) (keyA x) (lanD x) v = dnE (pput K x v) := by
  unfold putD pput
  rw [look_e]
  split
  · unfold dnE
    rw [List.map_map, List.map_map]
    refine List.map_congr_left fun p _ => ?_
    show (if nkOf (lanD p.1) = some (keyA x) then (lanD p.1, v) else (lanD p.1, p.2)) = (lanD (if p.1 = x then (p.1, v) else p).1, (if p.1 = x then (p.1, v) else p).2)
    rw [nk_lan]
    by_cases h : p.1 = x
    · rw [if_pos (by rw [h]), if_pos h]
    · rw [if_neg (fun z => h (keyA_inj (Option.some.inj z))), if_neg h]
  · unfold dnE
    rw [List.map_append]; rfl
theorem lk_some {K : Kv} {x : Lns} : (lk K x).isSome = true ↔ x ∈ K.map (·.1) := by
  unfold lk
  rw [Option.isSome_map, List.find?_isSome]
  constructor
  · rintro ⟨p, hp, h⟩
    exact List.mem_map.mpr ⟨p, hp, of_decide_eq_true h⟩
  · intro h
    obtain ⟨p, hp, e⟩ := List.mem_map.mp h
    exact ⟨p, hp, decide_eq_true e⟩
theorem dnput_e {i : Nat} {gk gv : Rho → RE PyData} {ρ : Rho} {K : Kv} {x : Lns} {v : PyData} (hi : ρ[i]? = some (some (.cp (.dn (dnE K))))) (hv : gv ρ = .ok v) (hk : gk ρ = .ok (lanD x)) (hl : K.length < lim) : dDnPut i gk gv ρ = .ok (.nx (ρ.set i (some (.cp (.dn (dnE (pput K x v))))))) := by
  unfold dDnPut
  refine (stE_ok hv).trans ?_
  rw [hi]
  refine (stE_ok hk).trans ?_
  show (match kOf (lanD x) with
    | some k => if (dnE K).length < lim then R.ok (Fl.nx (ρ.set i (some (.cp (.dn (putD (dnE K) k (lanD x) v)))))) else .bad
    | none => .bad) = _
  rw [kOf_lan]
  show (if (dnE K).length < lim then R.ok (Fl.nx (ρ.set i (some (.cp (.dn (putD (dnE K) (keyA x) (lanD x) v)))))) else .bad) = _
  rw [if_pos (by unfold dnE; rw [List.length_map]; exact hl), put_d]
theorem dnin_e {i : Nat} {ng : Bool} {g : Rho → RE PyData} {ρ : Rho} {K : Kv} {x : Lns} (hi : ρ[i]? = some (some (.cp (.dn (dnE K))))) (hg : g ρ = .ok (lanD x)) : dDnIn i ng g ρ = .ok (.bool (bne ng (decide (x ∈ K.map (·.1))))) := by
  unfold dDnIn
  rw [hi]
  show (g ρ).bind (fun d => R.of ((kOf d).map fun k => PyData.bool (bne ng (lookN (dnE K) k).isSome))) = _
  rw [hg, R.bind_ok, kOf_lan]
  show R.ok (PyData.bool (bne ng (lookN (dnE K) (keyA x)).isSome)) = _
  rw [look_e]
  have : (lk K x).isSome = decide (x ∈ K.map (·.1)) := by
    rw [Bool.eq_iff_iff, lk_some, decide_eq_true_eq]
  rw [this]
theorem dnget_e {i : Nat} {g : Rho → RE PyData} {ρ : Rho} {K : Kv} {x : Lns} {v : PyData} (hi : ρ[i]? = some (some (.cp (.dn (dnE K))))) (hg : g ρ = .ok (lanD x)) (hv : lk K x = some v) : dDnGet i g ρ = .ok v := by
  unfold dDnGet
  rw [hi]
  show (g ρ).bind (fun d => R.of ((kOf d).bind fun k => lookN (dnE K) k)) = _
  rw [hg, R.bind_ok, kOf_lan]
  show R.of (lookN (dnE K) (keyA x)) = _
  rw [look_e, hv]; rfl
/-! ### found: all values True -/
def tK (K : List Lns) : Kv := K.map fun k => (k, .bool true)
theorem tK_keys (K : List Lns) : (tK K).map (·.1) = K := by
  unfold tK
  rw [List.map_map]
  exact List.map_id' K
theorem tK_put (K : List Lns) (x : Lns) : pput (tK K) x (.bool true) = tK (kput K x) := by
  unfold pput kput
  by_cases h : x ∈ K
  · rw [if_pos (lk_some.mpr (by rw [tK_keys]; exact h)), if_pos h]
    unfold tK
    rw [List.map_map]
    refine List.map_congr_left fun k _ => ?_
    show (if k = x then (k, PyData.bool true) else (k, .bool true)) = _
    split <;> rfl
  · rw [if_neg (fun z => h (by have := lk_some.mp z; rwa [tK_keys] at this)), if_neg h]
    unfold tK
    rw [List.map_append]; rfl
/-! ### sorted_lanes -/
theorem sorted_lanes_e {rows : Lns} (hne : ∀ l ∈ rows, l ≠ []) (hup : ∀ l ∈ rows, l.Pairwise (· < ·)) (hnd : rows.flatten.Nodup) (hl : rows.length ≤ 1000) (hll : ∀ l ∈ rows, l.length ≤ 1000) : D_sorted_lanes [.list (rows.map eT)] = .ok (lanD (srtH rows)) := by
  have l1 := dLc_e (en := eT) (vs := [1]) (b := dTg1 1) (gs := dSeq (dVar 0)) (t := dTru (dVar 1)) (e := dUn tupleD (dUn sortD (dVar 1))) (ρ := [some (.fr (.list (rows.map eT))), none]) (fun _ => true) eT rows rfl (by unfold lim; omega) (fun l hl => by
    refine ⟨[some (.fr (.list (rows.map eT))), some (.fr (eT l))], rfl, ?_, fun _ => ?_⟩
    · have hn := hne l hl
      cases l with
      | nil => exact absurd rfl hn
      | cons x l => rfl
    · refine un_e (un_e (d := eT l) rfl (sortU_e (by have := hll l hl; unfold lim; omega))) ?_
      rw [srt_up (hup l hl)]; rfl)
  rw [filt_t] at l1
  refine fn_rt (ret_e (un_e (un_e l1 (sorted_heads (srtH_perm rows) (fun l hl => hne l ((srtH_perm rows).mem_iff.mp hl)) (srtH_lt (heads_nd hnd hne)) (by unfold lim; omega))) rfl))
theorem rows_ok {o : List Nat} {k : Nat} {ls : Lns} (L : Ln o k ls) {p g c : Nat} {A B : List Nat} (hA : ls[p]? = some A) (hB : ls[g]? = some B) (hpg : g ≠ p) (hc : c ∈ A) (hn : del A c ≠ []) :
    c ∉ B ∧ (ins B c).Pairwise (· < ·) ∧ (rowsOf ls p g (del A c) (ins B c)).flatten.Perm (List.range k) ∧ (∀ l ∈ rowsOf ls p g (del A c) (ins B c), l ≠ []) ∧ (∀ l ∈ rowsOf ls p g (del A c) (ins B c), l.Pairwise (· < ·)) := by
  obtain ⟨M, h1, h2⟩ := set2 hA hB hpg
  have h3 := h2 (del A c) (ins B c)
  have mA := List.mem_of_getElem? hA
  have mB := List.mem_of_getElem? hB
  have mM : ∀ l ∈ M, l ∈ ls := fun l hl => h1.mem_iff.mpr (by simp [hl])
  have hfl : (A ++ (B ++ M.flatten)).Perm (List.range k) := by
    have := h1.flatten.symm.trans L.pm
    rwa [List.flatten_cons, List.flatten_cons] at this
  have hnd : (A ++ (B ++ M.flatten)).Nodup := hfl.nodup_iff.mpr List.nodup_range
  have cB : c ∉ B := fun h => (List.nodup_append.mp hnd).2.2 c hc c (List.mem_append_left _ h) rfl
  have pA := del_perm (up_nd (L.up A mA)) hc
  have pB := ins_perm B c
  have ndB' : (ins B c).Nodup := pB.nodup_iff.mpr (List.nodup_cons.mpr ⟨cB, up_nd (L.up B mB)⟩)
  have upB' : (ins B c).Pairwise (· < ·) := lt_of_le_nd (srt_pw _) ndB'
  have rowm : ∀ l ∈ rowsOf ls p g (del A c) (ins B c), l = del A c ∨ l = ins B c ∨ l ∈ M := fun l hl => by simpa using h3.mem_iff.mp hl
  refine ⟨cB, upB', ?_, ?_, ?_⟩
  · refine h3.flatten.trans (List.Perm.trans ?_ hfl)
    rw [List.flatten_cons, List.flatten_cons]
    refine List.Perm.trans ?_ (pA.symm.append_right _)
    refine (List.Perm.append_left _ (pB.append_right _)).trans ?_
    exact List.perm_middle
  · intro l hl
    rcases rowm l hl with rfl | rfl | h
    · exact hn
    · exact fun e => by rw [e] at pB; exact absurd pB.length_eq (by simp)
    · exact L.ne l (mM l h)
  · intro l hl
    rcases rowm l hl with rfl | rfl | h
    · exact (L.up A mA).filter _
    · exact upB'
    · exact L.up l (mM l h)
end Dl
end
section
set_option Elab.async false
set_option linter.all false
set_option autoImplicit false
set_option maxRecDepth 100000
namespace Dl
open PySem L2 VS
theorem frz_e {i : Nat} {g : Rho → RS} {ρ : Rho} {ds : List PyData} (h : ρ[i]? = some (some (.ow ds))) : dFrz i g ρ = g (ρ.set i (some (.fr (.list ds)))) := by
  unfold dFrz
  rw [h]
abbrev stF (o : List Nat) (ls : Lns) (K : List Lns) (s3 s4 s5 s6 s7 s8 s9 s10 : Option SV) : Rho := [some (.fr (ordD o)), some (.fr (lanD ls)), some (.cp (.dn (dnE (tK K)))), s3, s4, s5, s6, s7, s8, s9, s10, none]
abbrev tstN : Rho → RE Bool := (dAnd (dTest (dBin neD (dVar 7) (dVar 3))) (dAnd (dTru (dVar 6)) (dTru (dCall D_is_free_of (dCons (dVarF 0) (dCons (dVarF 9) dNil))))))
abbrev bodN : Rho → RS := (dThen (dSet 9 (dUn sortD (dBin addD (dVar 8) (dTup (dCons (dVarF 5) dNil)))))
  (dIfS tstN (dThen (dSetN 10 (dUn listD (dVar 1)))
  (dThen (dSetIx 10 (dVar 3) (dVarF 6))
  (dThen (dSetIx 10 (dVar 7) (dUn tupleD (dVar 9)))
  (dFrz 10 (dDnPut 2 (dCall D_sorted_lanes (dCons (dVarF 10) dNil)) (dC (.bool true))))))) dNx))
section
variable {o : List Nat} {ls : Lns}
theorem near_in (h : Ord o) (L : Ln o o.length ls) {p c : Nat} {A : List Nat} (hA : ls[p]? = some A) (hc : c ∈ A) {K : List Lns} (hK : K.length ≤ 900) {s9 s10 : Option SV} {r : List Nat × Nat} (hr : r ∈ ls.zipIdx) :
    ∃ s9' s10', bodN (stF o ls K (some (.fr (eN p))) (some (.fr (eT A))) (some (.fr (eN c))) (some (.fr (eT (del A c)))) (some (.fr (eN r.2))) (some (.fr (eT r.1))) s9 s10) = .ok (.nx (stF o ls ((cand1 o ls p A c r).foldl kput K) (some (.fr (eN p))) (some (.fr (eT A))) (some (.fr (eN c))) (some (.fr (eT (del A c)))) (some (.fr (eN r.2))) (some (.fr (eT r.1))) s9' s10')) := by
  have hB := zipIdx_get hr
  have mA := List.mem_of_getElem? hA
  have mB := List.mem_of_getElem? hB
  have hhi := h.hi
  have lB := L.llen mB
  have hgl := (List.getElem?_eq_some_iff.mp hB).1
  have hpl := (List.getElem?_eq_some_iff.mp hA).1
  have lls := L.len
  have li : (ins r.1 c).length ≤ 8 := by rw [(ins_perm _ _).length_eq, List.length_cons]; omega
  have e9 : (dUn sortD (dBin addD (dVar 8) (dTup (dCons (dVarF 5) dNil)))) (stF o ls K (some (.fr (eN p))) (some (.fr (eT A))) (some (.fr (eN c))) (some (.fr (eT (del A c)))) (some (.fr (eN r.2))) (some (.fr (eT r.1))) s9 s10) = .ok (.list ((ins r.1 c).map eN)) :=
    un_e (bin_e (d := eT r.1) rfl rfl (addN_e (by omega))) (sortU_e (by rw [List.length_append, List.length_singleton]; unfold lim; omega))
  have t1 : (dTest (dBin neD (dVar 7) (dVar 3))) (stF o ls K (some (.fr (eN p))) (some (.fr (eT A))) (some (.fr (eN c))) (some (.fr (eT (del A c)))) (some (.fr (eN r.2))) (some (.fr (eT r.1))) (some (.fr (.list ((ins r.1 c).map eN)))) s10) = .ok (!decide (r.2 = p)) := by
    refine dTest_ok (bin_e (d := eN r.2) (e := eN p) rfl rfl ?_)
    rw [neI_s, decide_eq_decide.mpr Int.ofNat_inj]
  have t2 : (dTru (dVar 6)) (stF o ls K (some (.fr (eN p))) (some (.fr (eT A))) (some (.fr (eN c))) (some (.fr (eT (del A c)))) (some (.fr (eN r.2))) (some (.fr (eT r.1))) (some (.fr (.list ((ins r.1 c).map eN)))) s10) = .ok (!(del A c).isEmpty) := by
    show R.of (some (!((del A c).map eN).isEmpty)) = _
    rw [List.isEmpty_map]; rfl
  have ht : tstN (stF o ls K (some (.fr (eN p))) (some (.fr (eT A))) (some (.fr (eN c))) (some (.fr (eT (del A c)))) (some (.fr (eN r.2))) (some (.fr (eT r.1))) (some (.fr (.list ((ins r.1 c).map eN)))) s10) = .ok (okC o A p c r) := by
    unfold tstN okC
    rw [dAnd_s, t1, R.bind_ok]
    by_cases hg : r.2 = p
    · rw [decide_eq_true hg]; rfl
    · rw [decide_eq_false hg, Bool.not_false, cond_true, Bool.true_and, dAnd_s, t2, R.bind_ok]
      cases hn : (del A c).isEmpty with
      | true => rfl
      | false =>
        rw [Bool.not_false, cond_true, Bool.true_and]
        obtain ⟨q1, q2, q3, q4, q5⟩ := rows_ok L hA hB hg hc (List.isEmpty_eq_false_iff.mp hn)
        have hin : ∀ x ∈ ins r.1 c, x ∈ o := fun x hx => by
          rcases List.mem_cons.mp ((ins_perm _ _).mem_iff.mp hx) with rfl | hx
          · exact h.lt.mpr (L.lt mA hc)
          · exact h.lt.mpr (L.lt mB hx)
        rw [dTru_s]
        show R.bind (D_is_free_of [ordD o, .list ((ins r.1 c).map eN)]) _ = _
        rw [free_of_e (.inl rfl) hin (by omega) q2]
        rfl
  refine ⟨some (.fr (.list ((ins r.1 c).map eN))), if okC o A p c r = true then some (.fr (.list ((rowsOf ls p r.2 (del A c) (ins r.1 c)).map eT))) else s10, ?_⟩
  refine (then_nx (set_e e9)).trans ((ifS_e ht).trans ?_)
  unfold cand1
  cases hok : okC o A p c r with
  | false => rfl
  | true =>
    rw [if_pos rfl, if_pos rfl, cond_true]
    have hok' := hok
    unfold okC at hok'
    simp only [Bool.and_eq_true, Bool.not_eq_true', decide_eq_false_iff_not, List.isEmpty_eq_false_iff] at hok'
    obtain ⟨q1, q2, q3, q4, q5⟩ := rows_ok L hA hB hok'.1 hc hok'.2.1
    have erow : ((ls.map eT).set p (eT (del A c))).set r.2 (eT (ins r.1 c)) = (rowsOf ls p r.2 (del A c) (ins r.1 c)).map eT := by
      unfold rowsOf
      rw [List.map_set, List.map_set]
    have rl : (rowsOf ls p r.2 (del A c) (ins r.1 c)).length = ls.length := by
      unfold rowsOf
      rw [List.length_set, List.length_set]
    refine (then_nx (setN_e (ds := ls.map eT) rfl)).trans ?_
    refine (then_nx (setIx_e (m := p) (ds := ls.map eT) (d := eT (del A c)) rfl rfl rfl (by rw [List.length_map]; exact hpl))).trans ?_
    refine (then_nx (setIx_e (m := r.2) (ds := (ls.map eT).set p (eT (del A c))) (d := eT (ins r.1 c)) rfl rfl rfl (by rw [List.length_set, List.length_map]; exact hgl))).trans ?_
    rw [erow]
    refine (frz_e (ds := (rowsOf ls p r.2 (del A c) (ins r.1 c)).map eT) rfl).trans ?_
    have hsl := sorted_lanes_e q4 q5 (q3.nodup_iff.mpr List.nodup_range) (by rw [rl]; omega) (fun l hl => by
      have := flat_mem_len hl
      rw [q3.length_eq, List.length_range] at this
      omega)
    refine (dnput_e (K := tK K) (x := srtH (rowsOf ls p r.2 (del A c) (ins r.1 c))) (v := .bool true) rfl rfl hsl (by unfold tK; rw [List.length_map]; unfold lim; omega)).trans ?_
    rw [tK_put]
    rfl
theorem near_mid (h : Ord o) (L : Ln o o.length ls) {p c : Nat} {A : List Nat} (hA : ls[p]? = some A) (hc : c ∈ A) {K : List Lns} (hK : K.length ≤ 800) {s6 s7 s8 s9 s10 : Option SV} :
    ∃ s6' s7' s8' s9' s10', (dThen (dSet 6 (dUn tupleD (dLc [11] (dTg1 11) (dSeq (dVar 4)) (dTest (dBin neD (dVar 11) (dVar 5))) (dVarF 11)))) (dFor (dTgN [7, 8]) (dEnum (dVarF 1)) bodN)) (stF o ls K (some (.fr (eN p))) (some (.fr (eT A))) (some (.fr (eN c))) s6 s7 s8 s9 s10) = .ok (.nx (stF o ls ((cand2 o ls p A c).foldl kput K) (some (.fr (eN p))) (some (.fr (eT A))) (some (.fr (eN c))) s6' s7' s8' s9' s10')) := by
  have mA := List.mem_of_getElem? hA
  have hhi := h.hi
  have lA := L.llen mA
  have lls := L.len
  have l1 := dLc_e (en := eN) (vs := [11]) (b := dTg1 11) (gs := dSeq (dVar 4)) (t := dTest (dBin neD (dVar 11) (dVar 5))) (e := dVarF 11) (ρ := stF o ls K (some (.fr (eN p))) (some (.fr (eT A))) (some (.fr (eN c))) s6 s7 s8 s9 s10) (fun x => !decide (x = c)) eN A rfl (by unfold lim; omega) (fun x hx => by
    refine ⟨[some (.fr (ordD o)), some (.fr (lanD ls)), some (.cp (.dn (dnE (tK K)))), some (.fr (eN p)), some (.fr (eT A)), some (.fr (eN c)), s6, s7, s8, s9, s10, some (.fr (eN x))], rfl, ?_, fun _ => rfl⟩
    refine dTest_ok (bin_e (d := eN x) (e := eN c) rfl rfl ?_)
    rw [neI_s, decide_eq_decide.mpr Int.ofNat_inj])
  have e6 : (dUn tupleD (dLc [11] (dTg1 11) (dSeq (dVar 4)) (dTest (dBin neD (dVar 11) (dVar 5))) (dVarF 11))) (stF o ls K (some (.fr (eN p))) (some (.fr (eT A))) (some (.fr (eN c))) s6 s7 s8 s9 s10) = .ok (eT (del A c)) := un_e l1 rfl
  obtain ⟨ρ', e, s7', s8', s9', s10', rfl, _⟩ := nx_for (α := List Nat × Nat) (en := eQ) (tg := dTgN [7, 8]) (gs := dEnum (dVarF 1)) (body := bodN) (ρ := stF o ls K (some (.fr (eN p))) (some (.fr (eT A))) (some (.fr (eN c))) (some (.fr (eT (del A c)))) s7 s8 s9 s10)
    (fun pre ρ => ∃ s7 s8 s9 s10, ρ = stF o ls ((pre.flatMap (cand1 o ls p A c)).foldl kput K) (some (.fr (eN p))) (some (.fr (eT A))) (some (.fr (eN c))) (some (.fr (eT (del A c)))) s7 s8 s9 s10 ∧ pre.length ≤ ls.length) ls.zipIdx (by
      show R.of (some (enumL 0 (ls.map eT))) = _
      rw [enum_e]; rfl) ⟨s7, s8, s9, s10, rfl, Nat.zero_le _⟩ (by
      rintro pre r post ρ hp ⟨t7, t8, t9, t10, rfl, hpre⟩
      have hr : r ∈ ls.zipIdx := by rw [hp]; simp
      have hlen : pre.length + 1 ≤ ls.length := by
        have := congrArg List.length hp
        rw [List.length_zipIdx, List.length_append, List.length_cons] at this
        omega
      have hb1 := kfold_len (pre.flatMap (cand1 o ls p A c)) K
      have hb2 := flat_len (f := cand1 o ls p A c) (B := 1) (l := pre) fun r _ => cand1_len p A c r
      obtain ⟨u9, u10, eb⟩ := near_in h L hA hc (K := (pre.flatMap (cand1 o ls p A c)).foldl kput K) (by omega) (s9 := t9) (s10 := t10) hr
      refine ⟨_, _, rfl, eb, some (.fr (eN r.2)), some (.fr (eT r.1)), u9, u10, ?_, by rw [List.length_append, List.length_singleton]; exact hlen⟩
      rw [List.flatMap_append, List.foldl_append, List.flatMap_cons, List.flatMap_nil, List.append_nil])
  exact ⟨some (.fr (eT (del A c))), s7', s8', s9', s10', (then_nx (set_e e6)).trans e⟩
theorem near_of_e (h : Ord o) (L : Ln o o.length ls) : D_near_of [ordD o, lanD ls] = .ok (.list ((nb o ls).map lanD)) := by
  have hhi := h.hi
  have lls := L.len
  have hcl := cands_len L
  have hc49 : o.length * o.length ≤ 7 * 7 := Nat.mul_le_mul hhi hhi
  obtain ⟨d, e, rfl⟩ := rt_fn (n := 12) (ks := [true, true]) (ds := [ordD o, lanD ls]) (G := G_near_of) (T := fun d => d = .list ((nb o ls).map lanD)) (rt_nx (ρ' := stF o ls [] none none none none none none none none) rfl (rt_for (α := List Nat × Nat) (en := eQ)
    (fun pre ρ => ∃ s3 s4 s5 s6 s7 s8 s9 s10, ρ = stF o ls ((pre.flatMap (cand3 o ls)).foldl kput []) s3 s4 s5 s6 s7 s8 s9 s10 ∧ pre.length ≤ ls.length) ls.zipIdx (by
      show R.of (some (enumL 0 (ls.map eT))) = _
      rw [enum_e]; rfl) ⟨none, none, none, none, none, none, none, none, rfl, Nat.zero_le _⟩ (by
      rintro pre ⟨A, p⟩ post ρ hp ⟨t3, t4, t5, t6, t7, t8, t9, t10, rfl, hpre⟩
      have hr : (A, p) ∈ ls.zipIdx := by rw [hp]; simp
      have hA : ls[p]? = some A := zipIdx_get hr
      have mA := List.mem_of_getElem? hA
      have lA := L.llen mA
      have hlen : pre.length + 1 ≤ ls.length := by
        have := congrArg List.length hp
        rw [List.length_zipIdx, List.length_append, List.length_cons] at this
        omega
      have hb1 := kfold_len (pre.flatMap (cand3 o ls)) []
      have hb2 := flat_len (f := cand3 o ls) (B := 49) (l := pre) fun q hq => by
        have h1 := cand3_len (o := o) (ls := ls) q
        have h2 : q.1.length ≤ o.length := L.llen (List.mem_of_getElem? (zipIdx_get (show q ∈ ls.zipIdx by rw [hp]; simp [hq])))
        have h3 : q.1.length * ls.length ≤ 7 * 7 := Nat.mul_le_mul (by omega) (by omega)
        omega
      have hK : ((pre.flatMap (cand3 o ls)).foldl kput []).length ≤ 400 := by
        have : ([] : List Lns).length = 0 := rfl
        omega
      generalize hKe : (pre.flatMap (cand3 o ls)).foldl kput [] = K at *
      obtain ⟨ρ', e, s5', s6', s7', s8', s9', s10', rfl, _⟩ := nx_for (α := Nat) (en := eN) (tg := dTg1 5) (gs := dSeq (dVarF 4)) (body := (dThen (dSet 6 (dUn tupleD (dLc [11] (dTg1 11) (dSeq (dVar 4)) (dTest (dBin neD (dVar 11) (dVar 5))) (dVarF 11)))) (dFor (dTgN [7, 8]) (dEnum (dVarF 1)) bodN))) (ρ := stF o ls K (some (.fr (eN p))) (some (.fr (eT A))) t5 t6 t7 t8 t9 t10)
        (fun pc ρ => ∃ s5 s6 s7 s8 s9 s10, ρ = stF o ls ((pc.flatMap (cand2 o ls p A)).foldl kput K) (some (.fr (eN p))) (some (.fr (eT A))) s5 s6 s7 s8 s9 s10 ∧ pc.length ≤ A.length) A rfl ⟨t5, t6, t7, t8, t9, t10, rfl, Nat.zero_le _⟩ (by
          rintro pc c qc ρ hpc ⟨u5, u6, u7, u8, u9, u10, rfl, hpcl⟩
          have hcA : c ∈ A := by rw [hpc]; simp
          have hlen2 : pc.length + 1 ≤ A.length := by
            have := congrArg List.length hpc
            rw [List.length_append, List.length_cons] at this
            omega
          have hb3 := kfold_len (pc.flatMap (cand2 o ls p A)) K
          have hb4 := flat_len (f := cand2 o ls p A) (B := 7) (l := pc) fun c _ => Nat.le_trans (cand2_len p A c) (by omega)
          obtain ⟨v6, v7, v8, v9, v10, eb⟩ := near_mid h L hA hcA (K := (pc.flatMap (cand2 o ls p A)).foldl kput K) (by omega) (s6 := u6) (s7 := u7) (s8 := u8) (s9 := u9) (s10 := u10)
          refine ⟨_, _, rfl, eb, some (.fr (eN c)), v6, v7, v8, v9, v10, ?_, by rw [List.length_append, List.length_singleton]; exact hlen2⟩
          rw [List.flatMap_append, List.foldl_append, List.flatMap_cons, List.flatMap_nil, List.append_nil])
      refine ⟨_, _, rfl, e, some (.fr (eN p)), some (.fr (eT A)), s5', s6', s7', s8', s9', s10', ?_, by rw [List.length_append, List.length_singleton]; exact hlen⟩
      rw [List.flatMap_append, List.foldl_append, hKe, List.flatMap_cons, List.flatMap_nil, List.append_nil]
      rfl) (by
      rintro ρ' ⟨t3, t4, t5, t6, t7, t8, t9, t10, rfl, _⟩
      refine rt_ret (d := .list ((nb o ls).map lanD)) ?_ rfl
      have hb := kfold_len (cands o ls) []
      have hne : ∀ x ∈ (cands o ls).foldl kput [], x ≠ [] := fun x hx => by
        have hx : x ∈ cands o ls := by
          rcases (kfold_mem _ _).mp hx with z | z
          · cases z
          · exact z
        have h1 := (move_ok L hx).1
        intro e
        rw [e] at h1
        have := h1.fl
        have := h.lo
        simp at *
        omega
      have hs : sortB (((cands o ls).foldl kput []).map lanD) = true := sortB_lan hne (by
        have : ([] : List Lns).length = 0 := rfl
        unfold lim; omega)
      have ekeys : (dnE (tK ((cands o ls).foldl kput []))).map (·.1) = ((cands o ls).foldl kput []).map lanD := by
        unfold dnE tK
        rw [List.map_map, List.map_map]; rfl
      show (if sortB ((dnE (tK ((cands o ls).foldl kput []))).map (·.1)) = true then R.ok (PyData.list (sortedL ((dnE (tK ((cands o ls).foldl kput []))).map (·.1)))) else .bad) = _
      rw [ekeys, if_pos hs, sortedL_lan, nb_fold])))
  exact e
end
end Dl
end
section
set_option Elab.async false
set_option linter.all false
set_option autoImplicit false
set_option maxRecDepth 100000
namespace Dl
open PySem L2 VS
/-! ### sorted(set(arrangements)) -/
theorem ddupK_e : ∀ xs : List Lns, ddupK (xs.map keyA) = (ddupA xs).map keyA
  | [] => rfl
  | x :: xs => by
    have ih := ddupK_e xs
    rw [List.map_cons, ddupK, ddupA]
    by_cases h : x ∈ xs
    · rw [if_pos (List.mem_map_of_mem h), if_pos h, ih]
    · rw [if_neg (fun z => ?_), if_neg h, ih, List.map_cons]
      obtain ⟨y, hy, e⟩ := List.mem_map.mp z
      exact h (keyA_inj e ▸ hy)
theorem sortN_lan {xs : List Lns} (hne : ∀ x ∈ xs, x ≠ []) : sortN (xs.map lanD) = true := by
  unfold sortN
  simp only [Bool.and_eq_true, List.all_eq_true]
  refine ⟨⟨fun d hd e he => ?_, fun d hd => ?_⟩, fun d hd => ?_⟩
  · obtain ⟨p, _, rfl⟩ := List.mem_map.mp hd
    obtain ⟨q, _, rfl⟩ := List.mem_map.mp he
    exact alike_lan p q
  · obtain ⟨p, _, rfl⟩ := List.mem_map.mp hd
    have : (Dt.d (tt p)).depth ≤ 2 := Dt.dle (tt p)
    rw [← lan_d] at this
    exact decide_eq_true (by omega)
  · obtain ⟨p, hp, rfl⟩ := List.mem_map.mp hd
    obtain ⟨l, r, e⟩ := List.exists_cons_of_ne_nil (hne p hp)
    rw [e]
    rfl
theorem sortSN_e {xs : List Lns} (hne : ∀ x ∈ xs, x ≠ []) (hl : (ddupA xs).length < 64) : sortSN (.list (xs.map lanD)) = some (.list ((srtA (ddupA xs)).map lanD)) := by
  show (nksOf (xs.map lanD)).bind _ = _
  rw [nks_lans]
  show (if (ddupK (xs.map keyA)).length < 64 ∧ ((xs.map keyA).all fun k => decide (k.depth ≤ 8)) = true ∧ sortN (xs.map lanD) = true then some (PyData.list (sortedL ((ddupK (xs.map keyA)).map (·.data)))) else none) = _
  rw [if_pos]
  · rw [ddupK_e, List.map_map]
    have : (ddupA xs).map ((·.data) ∘ keyA) = (ddupA xs).map lanD := List.map_congr_left fun x _ => keyA_data x
    rw [this, sortedL_lan]
  · refine ⟨by rw [ddupK_e, List.length_map]; exact hl, ?_, sortN_lan hne⟩
    rw [List.all_eq_true]
    intro k hk
    obtain ⟨x, _, rfl⟩ := List.mem_map.mp hk
    exact decide_eq_true (dep_key x)
/-! ### the law's own moves -/
def del2 (ls : Lns) (p g : Nat) : Lns := ((List.range ls.length).filter fun s => !decide (s ∈ [p, g])).map fun s => ls.getD s []
theorem range_map (ls : Lns) : (List.range ls.length).map (fun s => ls.getD s []) = ls := by
  refine List.ext_getElem? fun i => ?_
  rw [List.getElem?_map]
  by_cases h : i < ls.length
  · rw [List.getElem?_range h, List.getElem?_eq_getElem h]
    simp [List.getD_eq_getElem?_getD, h]
  · rw [List.getElem?_eq_none (by rw [List.length_range]; omega), List.getElem?_eq_none (by omega)]; rfl
theorem del2_perm {ls : Lns} {p g : Nat} {A B : List Nat} (hA : ls[p]? = some A) (hB : ls[g]? = some B) (hpg : g ≠ p) : ls.Perm (A :: B :: del2 ls p g) := by
  obtain ⟨hp, eA⟩ := List.getElem?_eq_some_iff.mp hA
  obtain ⟨hg, eB⟩ := List.getElem?_eq_some_iff.mp hB
  have h1 : (List.range ls.length).Perm (p :: g :: (List.range ls.length).filter fun s => !decide (s ∈ [p, g])) := by
    have hf : ∀ s, s ∈ (List.range ls.length).filter (fun s => !decide (s ∈ [p, g])) ↔ s < ls.length ∧ s ≠ p ∧ s ≠ g := fun s => by
      rw [List.mem_filter, List.mem_range]
      simp
    refine (List.perm_ext_iff_of_nodup List.nodup_range ?_).mpr fun s => ?_
    · refine List.nodup_cons.mpr ⟨fun z => ?_, List.nodup_cons.mpr ⟨fun z => ?_, List.nodup_range.filter _⟩⟩
      · rcases List.mem_cons.mp z with z | z
        · exact hpg z.symm
        · exact ((hf p).mp z).2.1 rfl
      · exact ((hf g).mp z).2.2 rfl
    · rw [List.mem_range, List.mem_cons, List.mem_cons, hf]
      omega
  have h2 := h1.map fun s => ls.getD s []
  rw [range_map, List.map_cons, List.map_cons] at h2
  have e1 : ls.getD p [] = A := by rw [List.getD_eq_getElem?_getD, hA]; rfl
  have e2 : ls.getD g [] = B := by rw [List.getD_eq_getElem?_getD, hB]; rfl
  rw [e1, e2] at h2
  exact h2
theorem rows2_perm {ls : Lns} {p g : Nat} {A B x y : List Nat} (hA : ls[p]? = some A) (hB : ls[g]? = some B) (hpg : g ≠ p) : (rowsOf ls p g x y).Perm ((del2 ls p g ++ [x]) ++ [y]) := by
  obtain ⟨M, h1, h2⟩ := set2 hA hB hpg
  have pM : M.Perm (del2 ls p g) := (h1.symm.trans (del2_perm hA hB hpg)).cons_inv.cons_inv
  refine (h2 x y).trans (((pM.cons y).cons x).trans ?_)
  rw [List.append_assoc]
  exact (List.perm_append_comm (l₁ := [x, y]) (l₂ := del2 ls p g))
abbrev stM (o : List Nat) (ls : Lns) (C : List Lns) (s3 s4 s5 s6 s7 : Option SV) : Rho := [some (.fr (ordD o)), some (.fr (lanD ls)), some (.ow (C.map lanD)), s3, s4, s5, s6, s7, none, none]
abbrev tstM : Rho → RE Bool := (dAnd (dTest (dBin neD (dVar 5) (dVar 3))) (dAnd (dTest (dBin gtD (dUn lenD (dBin idxD (dVar 1) (dVar 3))) (dC (.int 1)))) (dTru (dCall D__law_free (dCons (dVarF 0) (dCons (dVarF 6) dNil))))))
abbrev rwM : Rho → RE PyData := (dLc [8] (dTg1 8) (dRng1 (dUn lenD (dVar 1))) (dTest (dBin notInD (dVar 8) (dTup (dCons (dVarF 3) (dCons (dVarF 5) dNil))))) (dBin idxD (dVar 1) (dVar 8)))
abbrev rsM : Rho → RE PyData := (dUn tupleD (dLc [9] (dTg1 9) (dSeq (dBin idxD (dVar 1) (dVar 3))) (dTest (dBin neD (dVar 9) (dVar 4))) (dVarF 9)))
abbrev bodM : Rho → RS := (dThen (dSet 6 (dUn tupleD (dUn sortD (dBin addD (dBin idxD (dVar 1) (dVar 5)) (dTup (dCons (dVarF 4) dNil))))))
  (dIfS tstM (dThen (dSetN 7 rwM)
  (dThen (dApp 7 rsM)
  (dApp 2 (dUn tupleD (dUn sortD (dBin addD (dVar 7) (dLst (dCons (dVarF 6) dNil)))))))) dNx))
section
variable {o : List Nat} {ls : Lns}
theorem getD_of {p : Nat} {A : List Nat} (hA : ls[p]? = some A) : ls.getD p [] = A := by rw [List.getD_eq_getElem?_getD, hA]; rfl
theorem moved_in (h : Ord o) (L : Ln o o.length ls) {p c g : Nat} {A : List Nat} (hA : ls[p]? = some A) (hc : c ∈ A) {C : List Lns} (hK : C.length ≤ 900) {s6 s7 : Option SV} (hg : g < ls.length) :
    ∃ s6' s7', bodM (stM o ls C (some (.fr (eN p))) (some (.fr (eN c))) (some (.fr (eN g))) s6 s7) = .ok (.nx (stM o ls (C ++ cand1 o ls p A c (ls.getD g [], g)) (some (.fr (eN p))) (some (.fr (eN c))) (some (.fr (eN g))) s6' s7')) := by
  obtain ⟨B, hB⟩ : ∃ B, ls[g]? = some B := ⟨_, List.getElem?_eq_getElem hg⟩
  rw [getD_of hB]
  have mA := List.mem_of_getElem? hA
  have mB := List.mem_of_getElem? hB
  have hhi := h.hi
  have lA := L.llen mA
  have lB := L.llen mB
  have hpl := (List.getElem?_eq_some_iff.mp hA).1
  have lls := L.len
  have li : (ins B c).length ≤ 8 := by rw [(ins_perm _ _).length_eq, List.length_cons]; omega
  have iA : ∀ {s6 s7 s8 s9 : Option SV}, (dBin idxD (dVar 1) (dVar 3)) [some (.fr (ordD o)), some (.fr (lanD ls)), some (.ow (C.map lanD)), some (.fr (eN p)), some (.fr (eN c)), some (.fr (eN g)), s6, s7, s8, s9] = .ok (eT A) := bin_e (d := lanD ls) (e := eN p) rfl rfl (idxU_e hA)
  have e6 : (dUn tupleD (dUn sortD (dBin addD (dBin idxD (dVar 1) (dVar 5)) (dTup (dCons (dVarF 4) dNil))))) (stM o ls C (some (.fr (eN p))) (some (.fr (eN c))) (some (.fr (eN g))) s6 s7) = .ok (eT (ins B c)) :=
    un_e (un_e (bin_e (d := eT B) (bin_e (d := lanD ls) (e := eN g) rfl rfl (idxU_e hB)) rfl (addN_e (by omega))) (sortU_e (by rw [List.length_append, List.length_singleton]; unfold lim; omega))) rfl
  have hdl : A.length = (del A c).length + 1 := by
    have := (del_perm (up_nd (L.up A mA)) hc).length_eq
    rw [List.length_cons] at this
    exact this
  have t1 : (dTest (dBin neD (dVar 5) (dVar 3))) (stM o ls C (some (.fr (eN p))) (some (.fr (eN c))) (some (.fr (eN g))) (some (.fr (eT (ins B c)))) s7) = .ok (!decide (g = p)) := by
    refine dTest_ok (bin_e (d := eN g) (e := eN p) rfl rfl ?_)
    rw [neI_s, decide_eq_decide.mpr Int.ofNat_inj]
  have t2 : (dTest (dBin gtD (dUn lenD (dBin idxD (dVar 1) (dVar 3))) (dC (.int 1)))) (stM o ls C (some (.fr (eN p))) (some (.fr (eN c))) (some (.fr (eN g))) (some (.fr (eT (ins B c)))) s7) = .ok (!(del A c).isEmpty) := by
    refine dTest_ok (bin_e (un_e iA lenU_s) rfl ?_)
    rw [gtI_s, List.length_map, hdl]
    congr 2
    cases hd : del A c with
    | nil => rfl
    | cons x y =>
      show decide ((1 : Int) < (((x :: y).length + 1 : Nat) : Int)) = true
      exact decide_eq_true (by rw [List.length_cons]; omega)
  have t3 : (dTru (dCall D__law_free (dCons (dVarF 0) (dCons (dVarF 6) dNil)))) (stM o ls C (some (.fr (eN p))) (some (.fr (eN c))) (some (.fr (eN g))) (some (.fr (eT (ins B c)))) s7) = .ok (freeB o (ins B c)) := by
    have hin : ∀ x ∈ ins B c, x ∈ o := fun x hx => by
      rcases List.mem_cons.mp ((ins_perm _ _).mem_iff.mp hx) with rfl | hx
      · exact h.lt.mpr (L.lt mA hc)
      · exact h.lt.mpr (L.lt mB hx)
    rw [dTru_s]
    show R.bind (D__law_free [ordD o, eT (ins B c)]) _ = _
    rw [law_free_g hin (by omega)]
    rfl
  have ht : tstM (stM o ls C (some (.fr (eN p))) (some (.fr (eN c))) (some (.fr (eN g))) (some (.fr (eT (ins B c)))) s7) = .ok (okC o A p c (B, g)) := by
    unfold tstM okC
    rw [dAnd_s, t1, R.bind_ok, dAnd_s, t2, R.bind_ok, t3]
    cases decide (g = p) <;> cases (del A c).isEmpty <;> rfl
  refine ⟨some (.fr (eT (ins B c))), if okC o A p c (B, g) = true then some (.ow ((del2 ls p g ++ [del A c]).map eT)) else s7, ?_⟩
  refine (then_nx (set_e e6)).trans ((ifS_e ht).trans ?_)
  unfold cand1
  cases hok : okC o A p c (B, g) with
  | false => rw [if_neg Bool.false_ne_true, if_neg Bool.false_ne_true, List.append_nil]; rfl
  | true =>
    rw [if_pos rfl, if_pos rfl, cond_true]
    have hok' := hok
    unfold okC at hok'
    simp only [Bool.and_eq_true, Bool.not_eq_true', decide_eq_false_iff_not, List.isEmpty_eq_false_iff] at hok'
    obtain ⟨q1, q2, q3, q4, q5⟩ := rows_ok L hA hB hok'.1 hc hok'.2.1
    have l1 := dLc_e (en := eN) (vs := [8]) (b := dTg1 8) (gs := dRng1 (dUn lenD (dVar 1))) (t := dTest (dBin notInD (dVar 8) (dTup (dCons (dVarF 3) (dCons (dVarF 5) dNil))))) (e := dBin idxD (dVar 1) (dVar 8)) (ρ := stM o ls C (some (.fr (eN p))) (some (.fr (eN c))) (some (.fr (eN g))) (some (.fr (eT (ins B c)))) s7) (fun s => !decide (s ∈ [p, g])) (fun s => eT (ls.getD s [])) (List.range ls.length)
      (rng1_e (n := ls.length) (un_e (d := lanD ls) rfl (by rw [lenU_s, List.length_map])) (by omega)) (by rw [List.length_range]; unfold lim; omega) (fun s hs => by
        have hs := List.mem_range.mp hs
        refine ⟨[some (.fr (ordD o)), some (.fr (lanD ls)), some (.ow (C.map lanD)), some (.fr (eN p)), some (.fr (eN c)), some (.fr (eN g)), some (.fr (eT (ins B c))), s7, some (.fr (eN s)), none], rfl, ?_, fun _ => ?_⟩
        · exact dTest_ok (bin_e (d := eN s) (e := .tuple ([p, g].map eN)) rfl rfl (notInU_d (α := Nat) (by decide) s [p, g]))
        · refine bin_e (d := lanD ls) (e := eN s) rfl rfl (idxU_e ?_)
          rw [List.getD_eq_getElem?_getD, List.getElem?_eq_getElem hs]; rfl)
    have e7 : rwM (stM o ls C (some (.fr (eN p))) (some (.fr (eN c))) (some (.fr (eN g))) (some (.fr (eT (ins B c)))) s7) = .ok (.list ((del2 ls p g).map eT)) := by
      refine l1.trans ?_
      unfold del2
      rw [List.map_map]; rfl
    have l2 := dLc_e (en := eN) (vs := [9]) (b := dTg1 9) (gs := dSeq (dBin idxD (dVar 1) (dVar 3))) (t := dTest (dBin neD (dVar 9) (dVar 4))) (e := dVarF 9) (ρ := stM o ls C (some (.fr (eN p))) (some (.fr (eN c))) (some (.fr (eN g))) (some (.fr (eT (ins B c)))) (some (.ow ((del2 ls p g).map eT)))) (fun x => !decide (x = c)) eN A (by rw [dSeq_s, iA]; rfl) (by unfold lim; omega) (fun x hx => by
      refine ⟨[some (.fr (ordD o)), some (.fr (lanD ls)), some (.ow (C.map lanD)), some (.fr (eN p)), some (.fr (eN c)), some (.fr (eN g)), some (.fr (eT (ins B c))), some (.ow ((del2 ls p g).map eT)), none, some (.fr (eN x))], rfl, ?_, fun _ => rfl⟩
      refine dTest_ok (bin_e (d := eN x) (e := eN c) rfl rfl ?_)
      rw [neI_s, decide_eq_decide.mpr Int.ofNat_inj])
    have er : rsM (stM o ls C (some (.fr (eN p))) (some (.fr (eN c))) (some (.fr (eN g))) (some (.fr (eT (ins B c)))) (some (.ow ((del2 ls p g).map eT)))) = .ok (eT (del A c)) := un_e l2 rfl
    have pr := rows2_perm (x := del A c) (y := ins B c) hA hB hok'.1
    have lr : ((del2 ls p g ++ [del A c]) ++ [ins B c]).length = ls.length := by
      rw [← pr.length_eq]
      unfold rowsOf
      rw [List.length_set, List.length_set]
    have ld : (del2 ls p g).length ≤ ls.length := by
      rw [List.length_append, List.length_append] at lr
      omega
    have es : (dUn tupleD (dUn sortD (dBin addD (dVar 7) (dLst (dCons (dVarF 6) dNil))))) (stM o ls C (some (.fr (eN p))) (some (.fr (eN c))) (some (.fr (eN g))) (some (.fr (eT (ins B c)))) (some (.ow ((del2 ls p g ++ [del A c]).map eT)))) = .ok (lanD (srtH (rowsOf ls p g (del A c) (ins B c)))) := by
      have hs := sorted_heads ((srtH_perm (rowsOf ls p g (del A c) (ins B c))).trans pr) (fun l hl => q4 l ((srtH_perm _).mem_iff.mp hl)) (srtH_lt (heads_nd (q3.nodup_iff.mpr List.nodup_range) q4)) (by rw [lr]; unfold lim; omega)
      have ha : addD (.list ((del2 ls p g ++ [del A c]).map eT)) (.list ([ins B c].map eT)) = some (.list (((del2 ls p g ++ [del A c]) ++ [ins B c]).map eT)) := by
        rw [addL_s (by simp only [List.length_map]; rw [List.length_append] at lr; unfold lim; omega), ← List.map_append]
      exact un_e (un_e (bin_e (d := .list ((del2 ls p g ++ [del A c]).map eT)) (e := .list ([ins B c].map eT)) rfl rfl ha) hs) rfl
    refine (then_nx (setN_e e7)).trans ?_
    refine (then_nx (app_e (ds := (del2 ls p g).map eT) (d := eT (del A c)) rfl er (by rw [List.length_map]; unfold lim; omega))).trans ?_
    rw [show (del2 ls p g).map eT ++ [eT (del A c)] = (del2 ls p g ++ [del A c]).map eT by rw [List.map_append]; rfl]
    refine (app_e (ds := C.map lanD) (d := lanD (srtH (rowsOf ls p g (del A c) (ins B c)))) rfl es (by rw [List.length_map]; unfold lim; omega)).trans ?_
    rw [show C.map lanD ++ [lanD (srtH (rowsOf ls p g (del A c) (ins B c)))] = (C ++ [srtH (rowsOf ls p g (del A c) (ins B c))]).map lanD by rw [List.map_append]; rfl]
    rfl
theorem flat_zip {β : Type} (f : List Nat × Nat → List β) : ls.zipIdx.flatMap f = (List.range ls.length).flatMap fun g => f (ls.getD g [], g) := by
  rw [zip_range, List.flatMap_map]
theorem moved_mid (h : Ord o) (L : Ln o o.length ls) {p c : Nat} {A : List Nat} (hA : ls[p]? = some A) (hc : c ∈ A) {C : List Lns} (hK : C.length ≤ 800) {s5 s6 s7 : Option SV} :
    ∃ s5' s6' s7', (dFor (dTg1 5) (dRng1 (dUn lenD (dVar 1))) bodM) (stM o ls C (some (.fr (eN p))) (some (.fr (eN c))) s5 s6 s7) = .ok (.nx (stM o ls (C ++ cand2 o ls p A c) (some (.fr (eN p))) (some (.fr (eN c))) s5' s6' s7')) := by
  have hhi := h.hi
  have lls := L.len
  obtain ⟨ρ', e, s5', s6', s7', rfl, _⟩ := nx_for (α := Nat) (en := eN) (tg := dTg1 5) (gs := dRng1 (dUn lenD (dVar 1))) (body := bodM) (ρ := stM o ls C (some (.fr (eN p))) (some (.fr (eN c))) s5 s6 s7)
    (fun pre ρ => ∃ s5 s6 s7, ρ = stM o ls (C ++ pre.flatMap fun g => cand1 o ls p A c (ls.getD g [], g)) (some (.fr (eN p))) (some (.fr (eN c))) s5 s6 s7 ∧ pre.length ≤ ls.length) (List.range ls.length) (rng1_e (n := ls.length) (un_e (d := lanD ls) rfl (by rw [lenU_s, List.length_map])) (by omega)) ⟨s5, s6, s7, by simp, Nat.zero_le _⟩ (by
      rintro pre g post ρ hp ⟨t5, t6, t7, rfl, hpre⟩
      have hr : g ∈ List.range ls.length := by rw [hp]; simp
      have hlen : pre.length + 1 ≤ ls.length := by
        have := congrArg List.length hp
        rw [List.length_range, List.length_append, List.length_cons] at this
        omega
      have hb2 := flat_len (f := fun g => cand1 o ls p A c (ls.getD g [], g)) (B := 1) (l := pre) fun g _ => cand1_len p A c _
      obtain ⟨u6, u7, eb⟩ := moved_in h L hA hc (C := C ++ pre.flatMap fun g => cand1 o ls p A c (ls.getD g [], g)) (by rw [List.length_append]; omega) (s6 := t6) (s7 := t7) (List.mem_range.mp hr)
      refine ⟨_, _, rfl, eb, some (.fr (eN g)), u6, u7, ?_, by rw [List.length_append, List.length_singleton]; exact hlen⟩
      rw [List.flatMap_append, List.flatMap_cons, List.flatMap_nil, List.append_nil, List.append_assoc])
  refine ⟨s5', s6', s7', ?_⟩
  rw [e]
  unfold cand2
  rw [flat_zip]
theorem moved_e (h : Ord o) (L : Ln o o.length ls) : D__law_moved [ordD o, lanD ls] = .ok (.list ((nb o ls).map lanD)) := by
  have hhi := h.hi
  have lls := L.len
  have hcl := cands_len L
  have hc49 : o.length * o.length ≤ 7 * 7 := Nat.mul_le_mul hhi hhi
  obtain ⟨d, e, rfl⟩ := rt_fn (n := 10) (ks := [true, true]) (ds := [ordD o, lanD ls]) (G := G__law_moved) (T := fun d => d = .list ((nb o ls).map lanD)) (rt_setN (ds := []) rfl (rt_for (α := Nat) (en := eN)
    (fun pre ρ => ∃ s3 s4 s5 s6 s7, ρ = stM o ls (pre.flatMap fun i => cand3 o ls (ls.getD i [], i)) s3 s4 s5 s6 s7 ∧ pre.length ≤ ls.length) (List.range ls.length) (rng1_e (n := ls.length) (un_e (d := lanD ls) rfl (by rw [lenU_s, List.length_map])) (by omega)) ⟨none, none, none, none, none, rfl, Nat.zero_le _⟩ (by
      rintro pre p post ρ hp ⟨t3, t4, t5, t6, t7, rfl, hpre⟩
      have hr : p ∈ List.range ls.length := by rw [hp]; simp
      obtain ⟨A, hA⟩ : ∃ A, ls[p]? = some A := ⟨_, List.getElem?_eq_getElem (List.mem_range.mp hr)⟩
      have mA := List.mem_of_getElem? hA
      have lA := L.llen mA
      have hlen : pre.length + 1 ≤ ls.length := by
        have := congrArg List.length hp
        rw [List.length_range, List.length_append, List.length_cons] at this
        omega
      have hb2 := flat_len (f := fun i => cand3 o ls (ls.getD i [], i)) (B := 49) (l := pre) fun i hi => by
        have h1 := cand3_len (o := o) (ls := ls) (ls.getD i [], i)
        have hi : i ∈ List.range ls.length := by rw [hp]; simp [hi]
        have hget := List.getElem?_eq_getElem (List.mem_range.mp hi)
        have h2 : (ls.getD i []).length ≤ o.length := by
          rw [getD_of hget]; exact L.llen (List.mem_of_getElem? hget)
        have h3 : (ls.getD i []).length * ls.length ≤ 7 * 7 := Nat.mul_le_mul (by omega) (by omega)
        exact Nat.le_trans h1 h3
      have hK : (pre.flatMap fun i => cand3 o ls (ls.getD i [], i)).length ≤ 400 := by omega
      generalize hKe : (pre.flatMap fun i => cand3 o ls (ls.getD i [], i)) = C at *
      obtain ⟨ρ', e, s4', s5', s6', s7', rfl, _⟩ := nx_for (α := Nat) (en := eN) (tg := dTg1 4) (gs := dSeq (dBin idxD (dVar 1) (dVar 3))) (body := (dFor (dTg1 5) (dRng1 (dUn lenD (dVar 1))) bodM)) (ρ := stM o ls C (some (.fr (eN p))) t4 t5 t6 t7)
        (fun pc ρ => ∃ s4 s5 s6 s7, ρ = stM o ls (C ++ pc.flatMap (cand2 o ls p A)) (some (.fr (eN p))) s4 s5 s6 s7 ∧ pc.length ≤ A.length) A (by
          have : (dBin idxD (dVar 1) (dVar 3)) (stM o ls C (some (.fr (eN p))) t4 t5 t6 t7) = .ok (eT A) := bin_e (d := lanD ls) (e := eN p) rfl rfl (idxU_e hA)
          rw [dSeq_s, this]; rfl) ⟨t4, t5, t6, t7, by simp, Nat.zero_le _⟩ (by
          rintro pc c qc ρ hpc ⟨u4, u5, u6, u7, rfl, hpcl⟩
          have hcA : c ∈ A := by rw [hpc]; simp
          have hlen2 : pc.length + 1 ≤ A.length := by
            have := congrArg List.length hpc
            rw [List.length_append, List.length_cons] at this
            omega
          have hb4 := flat_len (f := cand2 o ls p A) (B := 7) (l := pc) fun c _ => Nat.le_trans (cand2_len p A c) (by omega)
          obtain ⟨v5, v6, v7, eb⟩ := moved_mid h L hA hcA (C := C ++ pc.flatMap (cand2 o ls p A)) (by rw [List.length_append]; omega) (s5 := u5) (s6 := u6) (s7 := u7)
          refine ⟨_, _, rfl, eb, some (.fr (eN c)), v5, v6, v7, ?_, by rw [List.length_append, List.length_singleton]; exact hlen2⟩
          rw [List.flatMap_append, List.flatMap_cons, List.flatMap_nil, List.append_nil, List.append_assoc])
      refine ⟨_, _, rfl, e, some (.fr (eN p)), s4', s5', s6', s7', ?_, by rw [List.length_append, List.length_singleton]; exact hlen⟩
      rw [List.flatMap_append, hKe, List.flatMap_cons, List.flatMap_nil, List.append_nil, getD_of hA]
      rfl) (by
      rintro ρ' ⟨t3, t4, t5, t6, t7, rfl, _⟩
      refine rt_ret (d := .list ((nb o ls).map lanD)) ?_ rfl
      have ec : ((List.range ls.length).flatMap fun i => cand3 o ls (ls.getD i [], i)) = cands o ls := by
        unfold cands
        rw [flat_zip]
      rw [ec]
      have hne : ∀ x ∈ cands o ls, x ≠ [] := fun x hx => by
        have h1 := (move_ok L hx).1
        intro e
        rw [e] at h1
        have := h1.fl
        have := h.lo
        simp at *
        omega
      refine un_e (d := .list ((cands o ls).map lanD)) rfl (sortSN_e hne ?_)
      have := ddupA_len (cands o ls)
      omega)))
  exact e
end
end Dl
end
section
set_option Elab.async false
set_option linter.all false
set_option autoImplicit false
set_option maxRecDepth 100000
namespace Dl
open PySem L2 VS
/-! ### what are no lanes -/
section
variable {o : List Nat} {ls : Lns} {d : PyData}
theorem are_no_t (hd : isiD "tuple" d = some (.bool false)) : D_are_lanes_of [ordD o, d] = .ok (.bool false) := by
  refine fn_rt (then_rt ((ifS_e (b := true) ?_).trans rfl))
  have e : (dTru (dUn (isiD "tuple") (dVar 1))) [some (.fr (ordD o)), some (.fr d), none, none, none, none] = .ok false := by
    rw [dTru_s, un_e (d := d) rfl hd]; rfl
  show (dOr (dNot (dTru (dUn (isiD "tuple") (dVar 1)))) _) [some (.fr (ordD o)), some (.fr d), none, none, none, none] = _
  rw [dOr_s, dNot_s, e]; rfl
theorem are_no_0 : D_are_lanes_of [ordD o, .tuple [.tuple []]] = .ok (.bool false) := by
  have l1 := dLc_e (en := eT) (vs := [3]) (b := dTg1 3) (gs := dSeq (dVar 1)) (t := dOr (dNot (dTru (dUn (isiD "tuple") (dVar 3)))) (dNot (dTru (dVar 3)))) (e := dVarF 3) (ρ := [some (.fr (ordD o)), some (.fr (lanD [[]])), none, none, none, none]) (fun _ => true) eT [[]] rfl (by decide) (fun l hl => by
    rw [List.mem_singleton.mp hl]
    refine ⟨[some (.fr (ordD o)), some (.fr (lanD [[]])), none, some (.fr (eT [])), none, none], rfl, ?_, fun _ => rfl⟩
    have e : (dTru (dUn (isiD "tuple") (dVar 3))) [some (.fr (ordD o)), some (.fr (lanD [[]])), none, some (.fr (eT [])), none, none] = .ok true := by
      rw [dTru_s, un_e (d := eT []) rfl (isiT_e _)]; rfl
    rw [dOr_s, dNot_s, e]; rfl)
  refine fn_rt (then_rt ((ifS_e (b := true) ?_).trans rfl))
  have e : (dTru (dUn (isiD "tuple") (dVar 1))) [some (.fr (ordD o)), some (.fr (lanD [[]])), none, none, none, none] = .ok true := by
    rw [dTru_s, un_e (d := lanD [[]]) rfl (isiT_e _)]; rfl
  show (dOr (dNot (dTru (dUn (isiD "tuple") (dVar 1)))) (dTru (dLc [3] (dTg1 3) (dSeq (dVar 1)) (dOr (dNot (dTru (dUn (isiD "tuple") (dVar 3)))) (dNot (dTru (dVar 3)))) (dVarF 3)))) [some (.fr (ordD o)), some (.fr (lanD [[]])), none, none, none, none] = _
  rw [dOr_s, dNot_s, e, R.bind_ok, R.bind_ok, Bool.not_true, cond_false, dTru_s, l1]; rfl
theorem are_no_len (h : Ord o) (hne : ∀ l ∈ ls, l ≠ []) (hlt : ∀ x ∈ ls.flatten, x < o.length) (hlen : ls.flatten.length ≠ o.length) (hb : ls.flatten.length ≤ 1000) : D_are_lanes_of [ordD o, lanD ls] = .ok (.bool false) := by
  have hhi := h.hi
  have hll := len_flat hne
  have hlim : ls.length ≤ lim := by unfold lim; omega
  have l1 := dLc_e (en := eT) (vs := [3]) (b := dTg1 3) (gs := dSeq (dVar 1)) (t := dOr (dNot (dTru (dUn (isiD "tuple") (dVar 3)))) (dNot (dTru (dVar 3)))) (e := dVarF 3) (ρ := [some (.fr (ordD o)), some (.fr (lanD ls)), none, none, none, none]) (fun _ => false) eT ls rfl hlim (fun l hl => by
    refine ⟨[some (.fr (ordD o)), some (.fr (lanD ls)), none, some (.fr (eT l)), none, none], rfl, ?_, fun z => by cases z⟩
    have hne : (l.map eN).isEmpty = false := by
      have := hne l hl
      cases l with
      | nil => exact absurd rfl this
      | cons x l => rfl
    simp only [dOr_s, dNot_s, dTru_s, dUn_s, dVar, SV.dat, R.bind_ok, List.getElem?_cons_succ, List.getElem?_cons_zero, isiT_e, R.of_some, truB_s, truU_s, hne, Bool.not_true, Bool.not_false, cond_false])
  rw [filt_f] at l1
  have := rt_fn (n := 6) (ks := [true, true]) (ds := [ordD o, lanD ls]) (G := G_are_lanes_of) (T := fun d => d = .bool false) (rt_no (by
      show dOr _ _ [some (.fr (ordD o)), some (.fr (lanD ls)), none, none, none, none] = _
      rw [dOr_s, dTru_s (ga := dLc _ _ _ _ _), l1]
      simp only [dNot_s, dTru_s, dUn_s, dVar, SV.dat, R.bind_ok, List.getElem?_cons_succ, List.getElem?_cons_zero, isiT_e, R.of_some, truB_s, Bool.not_true, cond_false, truL_s, List.map_nil, List.isEmpty_nil]) (rt_setN (ds := []) rfl (rt_for (α := List Nat) (en := eT) (fun p ρ => ∃ s3, ρ = [some (.fr (ordD o)), some (.fr (lanD ls)), some (.ow (p.flatten.map eN)), s3, none, none]) ls rfl ⟨none, rfl⟩ (by
    rintro p l q ρ hp ⟨s3, rfl⟩
    refine ⟨[some (.fr (ordD o)), some (.fr (lanD ls)), some (.ow (p.flatten.map eN)), some (.fr (eT l)), none, none], _, rfl, extU_e (ds := p.flatten.map eN) (es := l.map eN) rfl rfl ?_, some (.fr (eT l)), ?_⟩
    · rw [hp, List.flatten_append, List.flatten_cons, List.length_append, List.length_append] at hb
      simp only [List.length_map]
      unfold lim
      omega
    · simp) (by
    rintro ρ' ⟨s3, rfl⟩
    have l2 := dLc_e (en := eN) (vs := [5]) (b := dTg1 5) (gs := dSeq (dVar 2)) (t := dNot (dTru (dCall D_in_range (dCons (dVarF 5) (dCons (dC (.int 0)) (dCons (dBin subD (dUn lenD (dVar 0)) (dC (.int 1))) dNil)))))) (e := dVarF 5) (ρ := [some (.fr (ordD o)), some (.fr (lanD ls)), some (.ow (ls.flatten.map eN)), s3, none, none]) (fun _ => false) eN ls.flatten rfl (by unfold lim; omega) (fun x hx => by
      have hx' := hlt x hx
      refine ⟨[some (.fr (ordD o)), some (.fr (lanD ls)), some (.ow (ls.flatten.map eN)), s3, none, some (.fr (eN x))], rfl, ?_, fun z => by cases z⟩
      have e1 : (decide ((0 : Int) ≤ (x : Int)) && decide ((x : Int) ≤ (o.length : Int) - 1)) = true := by
        rw [Bool.and_eq_true]; exact ⟨decide_eq_true (by omega), decide_eq_true (by omega)⟩
      simp only [dNot_s, dTru_s, dCall_s, dCons_s, dNil_s, dC_s, dBin_s, dUn_s, dVar, dVarF, SV.dat, R.bind_ok, List.getElem?_cons_succ, List.getElem?_cons_zero, lenU_s, List.length_map, R.of_some, subI_s, in_range_e, e1, truB_s, Bool.not_true])
    rw [filt_f] at l2
    refine rt_no ?_ (rt_rt (rt_yes ?_ (rt_ret (d := .bool false) rfl rfl)))
    · rw [dTru_s, l2]; rfl
    · have e1 : (dTest (dBin neD (dUn sortD (dVar 2)) (dUn listRg (dUn lenD (dVar 0))))) [some (.fr (ordD o)), some (.fr (lanD ls)), some (.ow (ls.flatten.map eN)), s3, none, none] = .ok true := by
        refine dTest_ok (bin_e (un_e (d := .list (ls.flatten.map eN)) rfl (sortL_e (by unfold lim; omega))) (un_e (un_e (d := ordD o) rfl lenU_s) (by rw [List.length_map]; exact listRg_e (by omega))) ?_)
        have := neD_d (α := List Nat) (by decide) (srt ls.flatten) (List.range o.length)
        refine this.trans ?_
        rw [decide_eq_false]
        · rfl
        · intro e
          have := congrArg List.length e
          rw [(srt_perm _).length_eq, List.length_range] at this
          exact hlen this
      rw [dOr_s, e1]; rfl))))
  obtain ⟨d, e, rfl⟩ := this
  exact e
/-! ### what raises -/
theorem check_lanes_ok (h : Ord o) (L : Ln o o.length ls) : D_check_lanes [ordD o, lanD ls] = .ok .none := by
  refine fn_nx (ρ := [some (.fr (ordD o)), some (.fr (lanD ls))]) ((then_nx (exp_e (d := .none) (check_order_e h))).trans ((ifS_e (b := false) ?_).trans rfl))
  show (dNot (dTru (dCall D_are_lanes_of (dCons (dVarF 0) (dCons (dVarF 1) dNil))))) [some (.fr (ordD o)), some (.fr (lanD ls))] = _
  rw [dNot_s, dTru_s]
  show R.bind (R.bind (D_are_lanes_of [ordD o, lanD ls]) _) _ = _
  rw [are_lanes_of_e h L]; rfl
theorem check_lanes_ex (h : Ord o) (hd : D_are_lanes_of [ordD o, d] = .ok (.bool false)) : D_check_lanes [ordD o, d] = .ex ⟨5, none⟩ := by
  refine fn_ex (ρ := [some (.fr (ordD o)), some (.fr d)]) ((then_nx (exp_e (d := .none) (check_order_e h))).trans ((ifS_e (b := true) ?_).trans rfl))
  show (dNot (dTru (dCall D_are_lanes_of (dCons (dVarF 0) (dCons (dVarF 1) dNil))))) [some (.fr (ordD o)), some (.fr d)] = _
  rw [dNot_s, dTru_s]
  show R.bind (R.bind (D_are_lanes_of [ordD o, d]) _) _ = _
  rw [hd]; rfl
theorem near_e (h : Ord o) (L : Ln o o.length ls) : D_near [ordD o, lanD ls] = .ok (.list ((nb o ls).map lanD)) :=
  fn_rt ((then_nx (exp_e (d := .none) (check_lanes_ok h L))).trans (ret_e (near_of_e h L)))
theorem near_ex (h : Ord o) (hd : D_are_lanes_of [ordD o, d] = .ok (.bool false)) : D_near [ordD o, d] = .ex ⟨5, none⟩ :=
  fn_ex (ρ := [some (.fr (ordD o)), some (.fr d)]) (then_ex (stE_ex (check_lanes_ex h hd)))
/-! ### the wrong ones -/
theorem no_tail (h : Ord o) (L : Ln o o.length ls) : D_are_lanes_of [ordD o, lanD (ls.drop 1)] = .ok (.bool false) := by
  have hlo := h.lo
  have hhi := h.hi
  have hfl := L.fl
  have hf : ls.flatten.length = (ls.drop 1).flatten.length + (ls.headD []).length ∧ 0 < (ls.headD []).length := by
    cases ls with
    | nil => simp at hfl; omega
    | cons l ls =>
      refine ⟨?_, List.length_pos_iff.mpr (L.ne l (by simp))⟩
      rw [List.flatten_cons, List.length_append]
      show _ = ls.flatten.length + l.length
      omega
  refine are_no_len h (fun l hl => L.ne l (List.mem_of_mem_drop hl)) (fun x hx => ?_) (by omega) (by omega)
  obtain ⟨l, hl, hx⟩ := List.mem_flatten.mp hx
  exact L.lt (List.mem_of_mem_drop hl) hx
theorem no_more (h : Ord o) (L : Ln o o.length ls) : D_are_lanes_of [ordD o, lanD (ls ++ [[0]])] = .ok (.bool false) := by
  have hlo := h.lo
  have hhi := h.hi
  have hfl := L.fl
  have e : (ls ++ [[0]]).flatten = ls.flatten ++ [0] := by rw [List.flatten_append]; rfl
  refine are_no_len h (fun l hl => ?_) (fun x hx => ?_) ?_ ?_
  · rcases List.mem_append.mp hl with hl | hl
    · exact L.ne l hl
    · rw [List.mem_singleton.mp hl]; simp
  · rw [e] at hx
    rcases List.mem_append.mp hx with hx | hx
    · exact List.mem_range.mp (L.pm.mem_iff.mp hx)
    · rw [List.mem_singleton.mp hx]; omega
  · rw [e, List.length_append, List.length_singleton]; omega
  · rw [e, List.length_append, List.length_singleton]; omega
end
theorem idx_any {ds : List PyData} {k : Nat} {d : PyData} (h : ds[k]? = some d) : idxD (.list ds) (eN k) = some d := by
  have := idxL_e (en := id) h
  rw [List.map_id] at this
  exact this
theorem ex_mod (h : Nat) {A : List Lns} (hA : A ≠ []) : ∃ x, A[h % A.length]? = some x ∧ x ∈ A := by
  have := List.length_pos_iff.mpr hA
  have hlt := Nat.mod_lt h this
  exact ⟨A[h % A.length], List.getElem?_eq_getElem hlt, List.getElem_mem hlt⟩
/-- e[(a * m) % len(e)] -/
theorem pick_e {gi ge : Rho → RE PyData} {ρ : Rho} {A : List Lns} {a m : Nat} (hi : gi ρ = .ok (eN a)) (he : ge ρ = .ok (.list (A.map lanD))) (ha : a < 1000) (hm : m < 1000) (hA : A ≠ []) : ∃ x ∈ A, (dBin idxD ge (dBin modD (dBin mulI gi (dC (.int (m : Int)))) (dUn lenD ge))) ρ = .ok (lanD x) := by
  obtain ⟨x, hx, hm'⟩ := ex_mod (a * m) hA
  have hpos := List.length_pos_iff.mpr hA
  refine ⟨x, hm', bin_e he (bin_e (bin_e hi rfl (mulI_s (.inl ⟨by omega, by omega⟩))) (un_e he lenL_s) (modI_s (by rw [List.length_map]; omega))) ?_⟩
  rw [List.length_map]
  have e : ((a : Int) * (m : Int)) % ((A.length : Nat) : Int) = ((a * m % A.length : Nat) : Int) := by
    rw [← Int.natCast_mul]; rfl
  rw [e]
  exact idxL_e hx
theorem nil_ne (o : List Nat) : ∀ (d : Nat) (ls : Lns) (c : Nat), c ≤ o.length → o.length < c + d → arrs o d ls c ≠ []
  | 0, ls, c, hc, hd => by omega
  | d + 1, ls, c, hc, hd => by
    unfold arrs
    split
    · simp
    · have := nil_ne o d (ls ++ [[c]]) (c + 1) (by omega) (by omega)
      intro e
      exact this (List.append_eq_nil_iff.mp e).1
end Dl
end
section
set_option Elab.async false
set_option linter.all false
set_option autoImplicit false
set_option maxRecDepth 100000
namespace Dl
open PySem L2 VS
/-! ### at most 52 arrangements of five cars -/
theorem nodup_sub {α : Type} [DecidableEq α] : ∀ {l D : List α}, l.Nodup → (∀ x ∈ l, x ∈ D) → l.length ≤ D.length
  | [], D, _, _ => Nat.zero_le _
  | x :: l, D, hn, h => by
    have hx : x ∈ D := h x List.mem_cons_self
    obtain ⟨h1, h2⟩ := List.nodup_cons.mp hn
    have ih := nodup_sub (l := l) (D := D.erase x) h2 fun y hy => (List.mem_erase_of_ne (fun (e : y = x) => h1 (e ▸ hy))).mpr (h y (List.mem_cons_of_mem _ hy))
    rw [List.length_erase_of_mem hx] at ih
    have : 0 < D.length := List.length_pos_of_mem hx
    rw [List.length_cons]; omega
def RG : Nat → List Nat → Prop
  | _, [] => True
  | k, a :: s => a ≤ k ∧ RG (max k (a + 1)) s
def rgs : Nat → Nat → List (List Nat)
  | 0, _ => [[]]
  | r + 1, k => (List.range (k + 1)).flatMap fun a => (rgs r (max k (a + 1))).map (a :: ·)
theorem mem_rgs : ∀ (s : List Nat) (k : Nat), RG k s → s ∈ rgs s.length k
  | [], _, _ => by simp [rgs]
  | a :: s, k, h => by
    rw [List.length_cons, rgs]
    exact List.mem_flatMap.mpr ⟨a, List.mem_range.mpr (Nat.lt_succ_of_le h.1), List.mem_map.mpr ⟨s, mem_rgs s _ h.2, rfl⟩⟩
theorem rgs_len {n : Nat} (h : n ≤ 5) : (rgs n 0).length ≤ 52 := by
  have : n = 0 ∨ n = 1 ∨ n = 2 ∨ n = 3 ∨ n = 4 ∨ n = 5 := by omega
  rcases this with rfl | rfl | rfl | rfl | rfl | rfl <;> decide +kernel
/-- the place of a car's lane -/
def cd (x : Lns) (c : Nat) : Nat := x.findIdx fun l => decide (c ∈ l)
def kf (x : Lns) : Nat → Nat
  | 0 => 0
  | c + 1 => max (kf x c) (cd x c + 1)
theorem kf_ge {x : Lns} {i : Nat} : ∀ {c : Nat}, i < c → cd x i + 1 ≤ kf x c
  | c + 1, h => by
    rw [kf]
    by_cases e : i = c
    · rw [e]; exact Nat.le_max_right _ _
    · exact Nat.le_trans (kf_ge (show i < c by omega)) (Nat.le_max_left _ _)
section
variable {o : List Nat} {n : Nat} {x y : Lns}
theorem Ln.dj (L : Ln o n x) {p q : Nat} {l m : List Nat} (hp : x[p]? = some l) (hq : x[q]? = some m) {c : Nat} (h1 : c ∈ l) (h2 : c ∈ m) : p = q := by
  have hd := (List.pairwise_flatten.mp L.nd).2
  obtain ⟨p1, rfl⟩ := List.getElem?_eq_some_iff.mp hp
  obtain ⟨q1, rfl⟩ := List.getElem?_eq_some_iff.mp hq
  rcases Nat.lt_trichotomy p q with z | z | z
  · exact absurd rfl (List.pairwise_iff_getElem.mp hd p q p1 q1 z c h1 c h2)
  · exact z
  · exact absurd rfl (List.pairwise_iff_getElem.mp hd q p q1 p1 z c h2 c h1)
theorem Ln.at (L : Ln o n x) {c : Nat} (hc : c < n) : ∃ l, x[cd x c]? = some l ∧ c ∈ l := by
  have hm : c ∈ x.flatten := L.pm.mem_iff.mpr (List.mem_range.mpr hc)
  obtain ⟨l, hl, h⟩ := List.mem_flatten.mp hm
  have hlt : cd x c < x.length := List.findIdx_lt_length_of_exists ⟨l, hl, decide_eq_true h⟩
  refine ⟨x[cd x c], List.getElem?_eq_getElem hlt, ?_⟩
  have := List.findIdx_getElem (xs := x) (p := fun l => decide (c ∈ l)) (w := hlt)
  exact of_decide_eq_true this
theorem Ln.cd_eq (L : Ln o n x) {p c : Nat} {l : List Nat} (hp : x[p]? = some l) (h : c ∈ l) : cd x c = p := by
  obtain ⟨m, hm, hc⟩ := L.at (L.lt (List.mem_of_getElem? hp) h)
  exact L.dj hm hp hc h
theorem Ln.rg (L : Ln o n x) : ∀ (r c : Nat), c + r = n → RG (kf x c) ((List.range' c r).map (cd x))
  | 0, _, _ => trivial
  | r + 1, c, h => by
    rw [List.range'_succ, List.map_cons]
    refine ⟨?_, L.rg r (c + 1) (by omega)⟩
    obtain ⟨l, hl, hc⟩ := L.at (show c < n by omega)
    cases hp : cd x c with
    | zero => exact Nat.zero_le _
    | succ p =>
      rw [hp] at hl
      have h1 := (List.getElem?_eq_some_iff.mp hl).1
      have hm : x[p]? = some x[p] := List.getElem?_eq_getElem (by omega)
      have hne := L.ne _ (List.mem_of_getElem? hm)
      have e1 := L.cd_eq hm (hd1_mem hne)
      have hlt : hd1 x[p] < hd1 l := by
        have hd := L.hd
        rw [List.pairwise_map] at hd
        have := List.pairwise_iff_getElem.mp hd p (p + 1) (by omega) h1 (by omega)
        obtain ⟨_, e⟩ := List.getElem?_eq_some_iff.mp hl
        rw [e] at this
        exact this
      have hle : hd1 l ≤ c := by
        have up := L.up l (List.mem_of_getElem? hl)
        cases l with
        | nil => cases hc
        | cons a l =>
          rcases List.mem_cons.mp hc with rfl | hc
          · exact Nat.le_refl _
          · exact Nat.le_of_lt ((List.pairwise_cons.mp up).1 c hc)
      have := kf_ge (x := x) (show hd1 x[p] < c by omega)
      omega
def code (n : Nat) (x : Lns) : List Nat := (List.range n).map (cd x)
theorem Ln.code_mem (L : Ln o n x) : code n x ∈ rgs n 0 := by
  have := mem_rgs (code n x) 0 (by
    have := L.rg n 0 (by omega)
    unfold code
    rw [List.range_eq_range']
    exact this)
  rwa [show (code n x).length = n by unfold code; rw [List.length_map, List.length_range]] at this
theorem up_mem_eq : ∀ {l m : List Nat}, l.Pairwise (· < ·) → m.Pairwise (· < ·) → (∀ c, c ∈ l ↔ c ∈ m) → l = m := fun hl hm h =>
  up_eq ((List.perm_ext_iff_of_nodup (up_nd hl) (up_nd hm)).mpr h) hl hm
theorem code_inj (Lx : Ln o n x) (Ly : Ln o n y) (e : code n x = code n y) : x = y := by
  have hc : ∀ c, c < n → cd x c = cd y c := fun c h => by
    have := congrArg (fun l => l[c]?) e
    simp only [code, List.getElem?_map, List.getElem?_range h] at this
    exact Option.some.inj this
  have key : ∀ {x y : Lns}, Ln o n x → Ln o n y → (∀ c, c < n → cd x c = cd y c) → ∀ (p : Nat) (l : List Nat), x[p]? = some l → y[p]? = some l := by
    intro x y Lx Ly hc p l hl
    have hne := Lx.ne l (List.mem_of_getElem? hl)
    have hm := hd1_mem hne
    have hn := Lx.lt (List.mem_of_getElem? hl) hm
    obtain ⟨m, hm2, hcm⟩ := Ly.at hn
    rw [← hc _ hn, Lx.cd_eq hl hm] at hm2
    rw [hm2]
    refine congrArg some (up_mem_eq (Ly.up m (List.mem_of_getElem? hm2)) (Lx.up l (List.mem_of_getElem? hl)) fun c => ⟨fun h => ?_, fun h => ?_⟩)
    · have hcn := Ly.lt (List.mem_of_getElem? hm2) h
      obtain ⟨l', hl', h'⟩ := Lx.at hcn
      rw [hc c hcn, Ly.cd_eq hm2 h, hl] at hl'
      cases hl'
      exact h'
    · have hcn := Lx.lt (List.mem_of_getElem? hl) h
      obtain ⟨m', hm', h'⟩ := Ly.at hcn
      rw [← hc c hcn, Lx.cd_eq hl h, hm2] at hm'
      cases hm'
      exact h'
  refine List.ext_getElem? fun p => ?_
  cases hx : x[p]? with
  | some l => rw [key Lx Ly hc p l hx]
  | none =>
    cases hy : y[p]? with
    | none => rfl
    | some m =>
      have := key Ly Lx (fun c h => (hc c h).symm) p m hy
      rw [hx] at this
      cases this
theorem few_ln (hn : n ≤ 5) : ∀ {X : List Lns}, X.Nodup → (∀ x ∈ X, Ln o n x) → X.length ≤ 52 := fun {X} hd hl => by
  have h1 : (X.map (code n)).Nodup := by
    rw [List.Nodup, List.pairwise_map]
    exact List.Pairwise.imp_of_mem (fun {a b} ha hb hab e => hab (code_inj (hl a ha) (hl b hb) e)) hd
  have h2 := nodup_sub h1 (D := rgs n 0) fun c hc => by
    obtain ⟨x, hx, rfl⟩ := List.mem_map.mp hc
    exact (hl x hx).code_mem
  rw [List.length_map] at h2
  exact Nat.le_trans h2 (rgs_len hn)
end
end Dl
end
section
set_option Elab.async false
set_option linter.all false
set_option autoImplicit false
set_option maxRecDepth 100000
namespace Dl
/-! ### shortest ways -/
section
variable {α : Type} {nb : α → List α} {one other here : α}
def Wk (nb : α → List α) (one : α) : Nat → α → Prop
  | 0, b => b = one
  | n + 1, b => ∃ c, Wk nb one n c ∧ b ∈ nb c
def Ch (nb : α → List α) : List α → Prop
  | [] => True
  | [_] => True
  | a :: b :: t => b ∈ nb a ∧ Ch nb (b :: t)
theorem Ch.wk : ∀ {t : List α} {a : α} {j : Nat}, Wk nb one j a → Ch nb (a :: t) → Wk nb one (j + t.length) ((a :: t).getLastD a)
  | [], a, j, h, _ => h
  | b :: t, a, j, h, hc => by
    have := Ch.wk (t := t) (a := b) (j := j + 1) ⟨a, h, hc.1⟩ hc.2
    rw [List.length_cons, show j + (t.length + 1) = j + 1 + t.length by omega]
    have e : (a :: b :: t).getLastD a = (b :: t).getLastD b := by
      cases t <;> rfl
    rw [e]; exact this
theorem Ch.at : ∀ {t : List α} {i : Nat} {x y : α}, Ch nb t → t[i]? = some x → t[i + 1]? = some y → y ∈ nb x
  | [], i, x, y, _, h, _ => by simp at h
  | [a], 0, x, y, _, _, h => by simp at h
  | [a], i + 1, x, y, _, h, _ => by simp at h
  | a :: b :: t, 0, x, y, hc, h1, h2 => by
    simp at h1 h2
    subst h1 h2
    exact hc.1
  | a :: b :: t, i + 1, x, y, hc, h1, h2 => Ch.at (t := b :: t) (i := i) hc.2 (by simpa using h1) (by simpa using h2)
/-- the search: B what is known, P done, Q to be done -/
structure Bf (nb : α → List α) (one : α) (B : List (α × Option α)) (P Q : List α) (lab : α → Nat) : Prop where
  ks : B.map (·.1) = P ++ Q
  nd : (P ++ Q).Nodup
  pa : ∀ x p, (x, some p) ∈ B → p ∈ P ∧ x ∈ nb p ∧ lab x = lab p + 1
  pn : ∀ x, (x, none) ∈ B → x = one
  l0 : lab one = 0
  on : one ∈ P ++ Q
  cl : ∀ p ∈ P, ∀ y ∈ nb p, y ∈ P ++ Q ∧ lab y ≤ lab p + 1
  mo : (P ++ Q).Pairwise fun a b => lab a ≤ lab b
  qq : ∀ q ∈ Q, ∀ q' ∈ Q, lab q' ≤ lab q + 1
  lb : ∀ x ∈ P ++ Q, lab x ≤ P.length
/-- while one is being done -/
structure Bi (nb : α → List α) (one here : α) (B : List (α × Option α)) (P Q pre : List α) (lab : α → Nat) : Prop where
  ks : B.map (·.1) = P ++ here :: Q
  nd : (P ++ here :: Q).Nodup
  pa : ∀ x p, (x, some p) ∈ B → p ∈ P ++ [here] ∧ x ∈ nb p ∧ lab x = lab p + 1
  pn : ∀ x, (x, none) ∈ B → x = one
  l0 : lab one = 0
  on : one ∈ P ++ here :: Q
  cl : ∀ p ∈ P, ∀ y ∈ nb p, y ∈ P ++ here :: Q ∧ lab y ≤ lab p + 1
  ch : ∀ y ∈ pre, y ∈ P ++ here :: Q ∧ lab y ≤ lab here + 1
  mo : (P ++ here :: Q).Pairwise fun a b => lab a ≤ lab b
  q1 : ∀ q ∈ Q, lab q ≤ lab here + 1
  lb : ∀ x ∈ P ++ here :: Q, lab x ≤ P.length + 1
  lh : lab here ≤ P.length
theorem Bf.init (one : α) : Bf nb one [(one, none)] [] [one] fun _ => 0 where
  ks := rfl
  nd := by simp
  pa := fun x p h => by simp at h
  pn := fun x h => by simpa using h
  l0 := rfl
  on := by simp
  cl := fun p h => by cases h
  mo := by simp
  qq := fun _ _ _ _ => Nat.zero_le _
  lb := fun _ _ => Nat.zero_le _
variable {B : List (α × Option α)} {P Q pre : List α} {lab : α → Nat}
theorem Bf.start (h : Bf nb one B P (here :: Q) lab) : Bi nb one here B P Q [] lab where
  ks := h.ks
  nd := h.nd
  pa := fun x p hp => ⟨List.mem_append_left _ (h.pa x p hp).1, (h.pa x p hp).2⟩
  pn := h.pn
  l0 := h.l0
  on := h.on
  cl := h.cl
  ch := fun y hy => by cases hy
  mo := h.mo
  q1 := fun q hq => h.qq here (by simp) q (by simp [hq])
  lb := fun x hx => Nat.le_succ_of_le (h.lb x hx)
  lh := h.lb here (by simp)
theorem Bi.old (h : Bi nb one here B P Q pre lab) {y : α} (hy : y ∈ P ++ here :: Q) : Bi nb one here B P Q (pre ++ [y]) lab := by
  refine ⟨h.ks, h.nd, h.pa, h.pn, h.l0, h.on, h.cl, fun z hz => ?_, h.mo, h.q1, h.lb, h.lh⟩
  rcases List.mem_append.mp hz with hz | hz
  · exact h.ch z hz
  · rw [List.mem_singleton.mp hz]
    refine ⟨hy, ?_⟩
    have mo := List.pairwise_append.mp h.mo
    rcases List.mem_append.mp hy with hy | hy
    · exact Nat.le_succ_of_le (mo.2.2 y hy here (by simp))
    · rcases List.mem_cons.mp hy with rfl | hy
      · exact Nat.le_succ _
      · exact h.q1 y hy
variable [DecidableEq α]
theorem Bi.new (h : Bi nb one here B P Q pre lab) {y : α} (hn : y ∈ nb here) (hy : y ∉ P ++ here :: Q) : Bi nb one here (B ++ [(y, some here)]) P (Q ++ [y]) (pre ++ [y]) (fun z => if z = y then lab here + 1 else lab z) := by
  have ek : P ++ here :: (Q ++ [y]) = (P ++ here :: Q) ++ [y] := by simp
  have el : ∀ z ∈ P ++ here :: Q, (if z = y then lab here + 1 else lab z) = lab z := fun z hz => if_neg (fun (e : z = y) => hy (e ▸ hz))
  have eh := el here (by simp)
  have mo := List.pairwise_append.mp h.mo
  have hle : ∀ z ∈ P ++ here :: Q, lab z ≤ lab here + 1 := fun z hz => by
    rcases List.mem_append.mp hz with hz | hz
    · exact Nat.le_succ_of_le (mo.2.2 z hz here (by simp))
    · rcases List.mem_cons.mp hz with rfl | hz
      · exact Nat.le_succ _
      · exact h.q1 z hz
  have inB : ∀ x q, (x, q) ∈ B → x ∈ P ++ here :: Q := fun x q hx => by
    rw [← h.ks]; exact List.mem_map.mpr ⟨_, hx, rfl⟩
  refine ⟨?_, ?_, ?_, ?_, ?_, ?_, ?_, ?_, ?_, ?_, ?_, ?_⟩
  · rw [ek, List.map_append, h.ks]; rfl
  · rw [ek]
    refine List.nodup_append.mpr ⟨h.nd, by simp, fun a ha b hb e => hy ?_⟩
    rw [← List.mem_singleton.mp hb, ← e]; exact ha
  · intro x p hx
    rcases List.mem_append.mp hx with hx | hx
    · obtain ⟨h1, h2, h3⟩ := h.pa x p hx
      refine ⟨h1, h2, ?_⟩
      have hp : p ∈ P ++ here :: Q := by
        rcases List.mem_append.mp h1 with z | z
        · exact List.mem_append_left _ z
        · rw [List.mem_singleton.mp z]; simp
      show (if x = y then lab here + 1 else lab x) = (if p = y then lab here + 1 else lab p) + 1
      rw [el x (inB x _ hx), el p hp]; exact h3
    · have e := List.mem_singleton.mp hx
      have e1 : x = y := congrArg Prod.fst e
      have e2 : p = here := Option.some.inj (congrArg Prod.snd e)
      rw [e1, e2]
      refine ⟨by simp, hn, ?_⟩
      show (if y = y then lab here + 1 else lab y) = (if here = y then lab here + 1 else lab here) + 1
      rw [if_pos rfl, eh]
  · intro x hx
    rcases List.mem_append.mp hx with hx | hx
    · exact h.pn x hx
    · have e := congrArg Prod.snd (List.mem_singleton.mp hx)
      cases e
  · show (if one = y then lab here + 1 else lab one) = 0
    rw [el one h.on]; exact h.l0
  · rw [ek]; exact List.mem_append_left _ h.on
  · intro p hp z hz
    obtain ⟨h1, h2⟩ := h.cl p hp z hz
    refine ⟨by rw [ek]; exact List.mem_append_left _ h1, ?_⟩
    show (if z = y then lab here + 1 else lab z) ≤ (if p = y then lab here + 1 else lab p) + 1
    rw [el z h1, el p (List.mem_append_left _ hp)]; exact h2
  · intro z hz
    rw [ek]
    show _ ∧ (if z = y then lab here + 1 else lab z) ≤ (if here = y then lab here + 1 else lab here) + 1
    rw [eh]
    rcases List.mem_append.mp hz with hz | hz
    · obtain ⟨h1, h2⟩ := h.ch z hz
      exact ⟨List.mem_append_left _ h1, by rw [el z h1]; exact h2⟩
    · rw [List.mem_singleton.mp hz]
      exact ⟨by simp, by rw [if_pos rfl]; exact Nat.le_refl _⟩
  · rw [ek]
    refine List.pairwise_append.mpr ⟨h.mo.imp_of_mem fun {a b} ha hb hab => ?_, by simp, fun a ha b hb => ?_⟩
    · show (if a = y then lab here + 1 else lab a) ≤ (if b = y then lab here + 1 else lab b)
      rw [el a ha, el b hb]; exact hab
    · rw [List.mem_singleton.mp hb]
      show (if a = y then lab here + 1 else lab a) ≤ (if y = y then lab here + 1 else lab y)
      rw [el a ha, if_pos rfl]
      exact hle a ha
  · intro q hq
    show (if q = y then lab here + 1 else lab q) ≤ (if here = y then lab here + 1 else lab here) + 1
    rw [eh]
    rcases List.mem_append.mp hq with hq | hq
    · rw [el q (List.mem_append_right _ (List.mem_cons_of_mem _ hq))]; exact h.q1 q hq
    · rw [List.mem_singleton.mp hq, if_pos rfl]; exact Nat.le_refl _
  · intro x hx
    rw [ek] at hx
    show (if x = y then lab here + 1 else lab x) ≤ P.length + 1
    rcases List.mem_append.mp hx with hx | hx
    · rw [el x hx]; exact h.lb x hx
    · rw [List.mem_singleton.mp hx, if_pos rfl]; exact Nat.succ_le_succ h.lh
  · show (if here = y then lab here + 1 else lab here) ≤ P.length
    rw [eh]; exact h.lh
omit [DecidableEq α] in
theorem Bi.done (h : Bi nb one here B P Q (nb here) lab) : Bf nb one B (P ++ [here]) Q lab := by
  have ek : P ++ [here] ++ Q = P ++ here :: Q := by simp
  have mo := List.pairwise_append.mp h.mo
  refine ⟨by rw [ek]; exact h.ks, by rw [ek]; exact h.nd, h.pa, h.pn, h.l0, by rw [ek]; exact h.on, fun p hp y hy => ?_, by rw [ek]; exact h.mo, fun q hq q' hq' => ?_, fun x hx => by rw [ek] at hx; rw [List.length_append, List.length_singleton]; exact h.lb x hx⟩
  · rw [ek]
    rcases List.mem_append.mp hp with hp | hp
    · exact h.cl p hp y hy
    · rw [List.mem_singleton.mp hp] at hy ⊢
      exact h.ch y hy
  · have h1 := h.q1 q' hq'
    have h2 := (List.pairwise_cons.mp mo.2.1).1 q hq
    omega
omit [DecidableEq α] in
theorem Bf.reach (h : Bf nb one B P Q lab) : ∀ (m : Nat) (x : α), Wk nb one m x → (x ∈ P ++ Q ∧ lab x ≤ m) ∨ ∃ q ∈ Q, lab q + 1 ≤ m
  | 0, x, hx => by
    have hx : x = one := hx
    rw [hx]
    exact .inl ⟨h.on, by rw [h.l0]; exact Nat.le_refl _⟩
  | m + 1, x, ⟨c, hc, hx⟩ => by
    rcases h.reach m c hc with ⟨h1, h2⟩ | ⟨q, hq, h2⟩
    · rcases List.mem_append.mp h1 with h1 | h1
      · obtain ⟨h3, h4⟩ := h.cl c h1 x hx
        exact .inl ⟨h3, by omega⟩
      · exact .inr ⟨c, h1, by omega⟩
    · exact .inr ⟨q, hq, by omega⟩
omit [DecidableEq α] in
theorem Bf.least (h : Bf nb one B P Q lab) {x : α} (hx : x ∈ P ++ Q) {m : Nat} (w : Wk nb one m x) : lab x ≤ m := by
  rcases h.reach m x w with ⟨_, h2⟩ | ⟨q, hq, h2⟩
  · exact h2
  · rcases List.mem_append.mp hx with hx | hx
    · have := (List.pairwise_append.mp h.mo).2.2 x hx q hq
      omega
    · have := h.qq q hq x hx
      omega
omit [DecidableEq α] in
theorem Bf.none (h : Bf nb one B P [] lab) {x : α} (hx : x ∉ P ++ []) (m : Nat) : ¬ Wk nb one m x := fun w => by
  rcases h.reach m x w with ⟨h1, _⟩ | ⟨q, hq, _⟩
  · exact hx h1
  · cases hq
/-! ### level by level -/
structure Lv (nb : α → List α) (one other : α) (m : Nat) (lev seen : List α) : Prop where
  wk : ∀ x ∈ lev, Wk nb one m x
  al : ∀ j, j ≤ m → ∀ x, Wk nb one j x → x ∈ seen
  ot : other ∈ seen → other ∈ lev
  no : ∀ j, j < m → ¬ Wk nb one j other
  cl : ∀ x ∈ seen, x ∉ lev → ∀ y ∈ nb x, y ∈ seen
  sb : ∀ x ∈ lev, x ∈ seen
  nd : seen.Nodup
  ct : lev ≠ [] → m + 1 ≤ seen.length
omit [DecidableEq α] in
theorem Lv.init (one other : α) : Lv nb one other 0 [one] [one] where
  wk := fun x hx => List.mem_singleton.mp hx
  al := fun j hj x hx => by
    have : j = 0 := by omega
    subst this
    rw [show x = one from hx]; simp
  ot := id
  no := fun j hj => by omega
  cl := fun x h1 h2 => absurd h1 h2
  sb := fun x h => h
  nd := by simp
  ct := fun _ => Nat.le_refl _
variable {m : Nat} {lev seen lev' : List α}
omit [DecidableEq α] in
theorem Lv.next (h : Lv nb one other m lev seen) (hno : other ∉ lev) (hm : ∀ y, y ∈ lev' ↔ ∃ x ∈ lev, y ∈ nb x ∧ y ∉ seen) (hd : lev'.Nodup) : Lv nb one other (m + 1) lev' (seen ++ lev') where
  wk := fun y hy => by
    obtain ⟨x, hx, h1, _⟩ := (hm y).mp hy
    exact ⟨x, h.wk x hx, h1⟩
  al := fun j hj y hw => by
    rcases Nat.lt_or_ge m j with z | z
    · have : j = m + 1 := by omega
      subst this
      obtain ⟨c, hc, hy⟩ := hw
      have hcs := h.al m (Nat.le_refl _) c hc
      by_cases hys : y ∈ seen
      · exact List.mem_append_left _ hys
      · by_cases hcl : c ∈ lev
        · exact List.mem_append_right _ ((hm y).mpr ⟨c, hcl, hy, hys⟩)
        · exact absurd (h.cl c hcs hcl y hy) hys
    · exact List.mem_append_left _ (h.al j z y hw)
  ot := fun ho => by
    rcases List.mem_append.mp ho with ho | ho
    · exact absurd (h.ot ho) hno
    · exact ho
  no := fun j hj hw => hno (h.ot (h.al j (by omega) other hw))
  cl := fun x hx hxl y hy => by
    rcases List.mem_append.mp hx with hx | hx
    · by_cases hys : y ∈ seen
      · exact List.mem_append_left _ hys
      · by_cases hcl : x ∈ lev
        · exact List.mem_append_right _ ((hm y).mpr ⟨x, hcl, hy, hys⟩)
        · exact absurd (h.cl x hx hcl y hy) hys
    · exact absurd hx hxl
  sb := fun x hx => List.mem_append_right _ hx
  nd := List.nodup_append.mpr ⟨h.nd, hd, fun a ha b hb e => by
    obtain ⟨_, _, _, h2⟩ := (hm b).mp hb
    exact h2 (e ▸ ha)⟩
  ct := fun hl => by
    obtain ⟨y, hy⟩ := List.exists_mem_of_ne_nil _ hl
    obtain ⟨x, hx, _⟩ := (hm y).mp hy
    have h1 := h.ct (List.ne_nil_of_mem hx)
    have h2 := List.length_pos_of_mem hy
    rw [List.length_append]
    omega
omit [DecidableEq α] in
theorem Lv.none (h : Lv nb one other m [] seen) : ∀ (n : Nat) (x : α), Wk nb one n x → x ∈ seen
  | 0, x, hw => h.al 0 (Nat.zero_le _) x hw
  | n + 1, x, ⟨c, hc, hx⟩ => h.cl c (h.none n c hc) (by simp) x hx
end
end Dl
end
section
set_option Elab.async false
set_option linter.all false
set_option autoImplicit false
set_option maxRecDepth 100000
namespace Dl
open PySem L2 VS
/-- a loop whose measure goes down -/
theorem while_go {t : Rho → RE Bool} {body : Rho → RS} (I : Nat → Rho → Prop) (hs : ∀ n ρ, I n ρ → t ρ = .ok false ∨ (t ρ = .ok true ∧ ∃ ρ2 m, body ρ = .ok (.nx ρ2) ∧ m < n ∧ I m ρ2)) :
    ∀ (fuel n : Nat) (ρ : Rho), n < fuel → I n ρ → ∃ ρ' m, whileD t body fuel ρ = .ok (.nx ρ') ∧ I m ρ' ∧ t ρ' = .ok false
  | 0, n, ρ, h, _ => absurd h (Nat.not_lt_zero _)
  | fuel + 1, n, ρ, h, hi => by
    rcases hs n ρ hi with e | ⟨e, ρ2, m, hb, hm, hi2⟩
    · exact ⟨ρ, n, by rw [whileD, e], hi, e⟩
    · obtain ⟨ρ', k, h1, h2, h3⟩ := while_go I hs fuel m ρ2 (by omega) hi2
      refine ⟨ρ', k, ?_, h2, h3⟩
      rw [whileD, e]
      simp only [hb, R.bind_ok]
      exact h1
/-! ### the dict of the search -/
def pd : Option Lns → PyData
  | none => .none
  | some p => lanD p
abbrev Bs := List (Lns × Option Lns)
def kvB (B : Bs) : Kv := B.map fun e => (e.1, pd e.2)
theorem kvB_keys (B : Bs) : (kvB B).map (·.1) = B.map (·.1) := by
  unfold kvB
  rw [List.map_map]; rfl
theorem kvB_new {B : Bs} {x p : Lns} (h : x ∉ B.map (·.1)) : pput (kvB B) x (lanD p) = kvB (B ++ [(x, some p)]) := by
  unfold pput
  rw [if_neg (fun z => h (by have := lk_some.mp z; rwa [kvB_keys] at this))]
  unfold kvB
  rw [List.map_append]; rfl
theorem kvB_get : ∀ {B : Bs} {x : Lns} {q : Option Lns}, (B.map (·.1)).Nodup → (x, q) ∈ B → lk (kvB B) x = some (pd q)
  | e :: B, x, q, hn, h => by
    rw [List.map_cons] at hn
    obtain ⟨h1, h2⟩ := List.nodup_cons.mp hn
    unfold lk kvB
    rw [List.map_cons, List.find?_cons]
    rcases List.mem_cons.mp h with e1 | h
    · rw [← e1]
      simp
    · have hne : e.1 ≠ x := fun z => h1 (List.mem_map.mpr ⟨(x, q), h, z.symm⟩)
      show Option.map _ (match decide (e.1 = x) with | true => some (e.1, pd e.2) | false => _) = _
      rw [decide_eq_false hne]
      exact kvB_get h2 h
theorem pop0_e {h : Lns} {Q : List Lns} (hl : Q.length ≤ 1000) : popD ((h :: Q).map lanD) 0 = some (lanD h, Q.map lanD) := by
  unfold popD
  rw [if_pos (small_of (by omega))]
  have e : ixN ((h :: Q).map lanD).length 0 = some 0 := ixN_nat (k := 0) (by simp)
  rw [e]
  rfl
theorem setPop_e {i j : Nat} {g : Rho → RE PyData} {ρ : Rho} {es es' : List PyData} {m : Int} {y : PyData} (hj : ρ[j]? = some (some (.ow es))) (hg : g ρ = .ok (.int m)) (hp : popD es m = some (y, es')) : dSetPop i j g ρ = .ok (.nx ((ρ.set j (some (.ow es'))).set i (some (.fr y)))) := by
  unfold dSetPop atOw
  rw [hj]
  refine (stE_ok hg).trans ?_
  show (match popD es m with
    | some (y, es') => R.ok (Fl.nx ((ρ.set j (some (.ow es'))).set i (some (.fr y))))
    | none => .bad) = _
  rw [hp]
theorem lastL_e {T : List Lns} {x : Lns} : idxD (.list ((x :: T).reverse.map lanD)) (.int (-1)) = some (lanD x) := by
  show atI ((x :: T).reverse.map lanD) (-1) = _
  unfold atI
  have e : ixN ((x :: T).reverse.map lanD).length (-1) = some T.length := by
    unfold ixN
    rw [if_neg (by decide), List.length_map, List.length_reverse, List.length_cons, if_pos (by omega)]
    congr 1
    omega
  rw [e]
  show ((x :: T).reverse.map lanD)[T.length]? = _
  rw [List.getElem?_map, List.reverse_cons, List.getElem?_append_right (by rw [List.length_reverse]; exact Nat.le_refl _), List.length_reverse, Nat.sub_self]
  rfl
abbrev stR (o : List Nat) (one other : Lns) (B : Bs) (Q : List Lns) (s5 s6 s7 : Option SV) : Rho := [some (.fr (ordD o)), some (.fr (lanD one)), some (.fr (lanD other)), some (.cp (.dn (dnE (kvB B)))), some (.ow (Q.map lanD)), s5, s6, s7]
abbrev tstR : Rho → RE Bool := (dAnd (dTru (dVar 4)) (dTest (dDnIn 3 true (dVar 2))))
abbrev forR : Rho → RS := (dFor (dTg1 6) (dSeq (dCall D_near_of (dCons (dVarF 0) (dCons (dVarF 5) dNil)))) (dIfS (dTest (dDnIn 3 true (dVar 6))) (dThen (dDnPut 3 (dVar 6) (dVarF 5))
  (dApp 4 (dVarF 6))) dNx))
section
variable {o : List Nat} {one other here : Lns}
theorem tstR_e {B : Bs} {P Q : List Lns} (hk : B.map (·.1) = P ++ Q) {s5 s6 s7 : Option SV} : tstR (stR o one other B Q s5 s6 s7) = .ok (!Q.isEmpty && !decide (other ∈ P ++ Q)) := by
  have t1 : (dTru (dVar 4)) (stR o one other B Q s5 s6 s7) = .ok (!Q.isEmpty) := by
    show R.of (some (!(Q.map lanD).isEmpty)) = _
    rw [List.isEmpty_map]; rfl
  have t2 : (dTest (dDnIn 3 true (dVar 2))) (stR o one other B Q s5 s6 s7) = .ok (!decide (other ∈ P ++ Q)) := by
    refine dTest_ok ((dnin_e (K := kvB B) (x := other) rfl rfl).trans ?_)
    rw [kvB_keys, hk]
    cases decide (other ∈ P ++ Q) <;> rfl
  unfold tstR
  rw [dAnd_s, t1, R.bind_ok, t2]
  cases Q.isEmpty <;> rfl
/-- one of the queue -/
theorem road_for (h : Ord o) (h5 : o.length ≤ 5) {B : Bs} {P Q : List Lns} {lab : Lns → Nat} (b : Bf (nb o) one B P (here :: Q) lab) (hL : ∀ x ∈ P ++ here :: Q, Ln o o.length x) {s6 : Option SV} :
    ∃ B' Q' lab' s6', forR (stR o one other B Q (some (.fr (lanD here))) s6 none) = .ok (.nx (stR o one other B' Q' (some (.fr (lanD here))) s6' none)) ∧ Bf (nb o) one B' (P ++ [here]) Q' lab' ∧ ∀ x ∈ P ++ [here] ++ Q', Ln o o.length x := by
  have Lh := hL here (by simp)
  obtain ⟨ρ', e, B', Q', lab', s6', rfl, b', hL'⟩ := nx_for (α := Lns) (en := lanD) (tg := dTg1 6) (gs := dSeq (dCall D_near_of (dCons (dVarF 0) (dCons (dVarF 5) dNil)))) (body := (dIfS (dTest (dDnIn 3 true (dVar 6))) (dThen (dDnPut 3 (dVar 6) (dVarF 5)) (dApp 4 (dVarF 6))) dNx)) (ρ := stR o one other B Q (some (.fr (lanD here))) s6 none)
    (fun pre ρ => ∃ B Q lab s6, ρ = stR o one other B Q (some (.fr (lanD here))) s6 none ∧ Bi (nb o) one here B P Q pre lab ∧ ∀ x ∈ P ++ here :: Q, Ln o o.length x) (nb o here) (by
      rw [dSeq_s]
      show R.bind (D_near_of [ordD o, lanD here]) _ = _
      rw [near_of_e h Lh]; rfl) ⟨B, Q, lab, s6, rfl, b.start, hL⟩ (by
      rintro pre y post ρ hp ⟨B, Q, lab, t6, rfl, b, hL⟩
      have hy : y ∈ nb o here := by rw [hp]; simp
      have Ly := (move_ok Lh (mem_nb.mp hy)).1
      have few := few_ln h5 b.nd hL
      have hBl : B.length ≤ 52 := by
        have := congrArg List.length b.ks
        rw [List.length_map] at this
        omega
      have hQl : Q.length ≤ 52 := by
        rw [List.length_append, List.length_cons] at few
        omega
      have ht : (dTest (dDnIn 3 true (dVar 6))) (stR o one other B Q (some (.fr (lanD here))) (some (.fr (lanD y))) none) = .ok (!decide (y ∈ P ++ here :: Q)) := by
        refine dTest_ok ((dnin_e (K := kvB B) (x := y) rfl rfl).trans ?_)
        rw [kvB_keys, b.ks]
        cases decide (y ∈ P ++ here :: Q) <;> rfl
      by_cases hm : y ∈ P ++ here :: Q
      · rw [decide_eq_true hm] at ht
        exact ⟨_, stR o one other B Q (some (.fr (lanD here))) (some (.fr (lanD y))) none, rfl, (ifS_e ht).trans rfl, B, Q, lab, _, rfl, b.old hm, hL⟩
      · rw [decide_eq_false hm] at ht
        refine ⟨_, stR o one other (B ++ [(y, some here)]) (Q ++ [y]) (some (.fr (lanD here))) (some (.fr (lanD y))) none, rfl, (ifS_e ht).trans ?_, B ++ [(y, some here)], Q ++ [y], _, _, rfl, b.new hy hm, fun x hx => ?_⟩
        · refine (then_nx (dnput_e (K := kvB B) (x := y) (v := lanD here) rfl rfl rfl (by unfold kvB; rw [List.length_map]; unfold lim; omega))).trans ?_
          rw [kvB_new (by rw [b.ks]; exact hm)]
          refine (app_e (ds := Q.map lanD) (d := lanD y) rfl rfl (by rw [List.length_map]; unfold lim; omega)).trans ?_
          rw [show Q.map lanD ++ [lanD y] = (Q ++ [y]).map lanD by rw [List.map_append]; rfl]
          rfl
        · have : x ∈ (P ++ here :: Q) ++ [y] := by simpa using hx
          rcases List.mem_append.mp this with z | z
          · exact hL x z
          · rw [List.mem_singleton.mp z]; exact Ly)
  refine ⟨B', Q', lab', s6', e, b'.done, fun x hx => hL' x ?_⟩
  rw [List.append_assoc] at hx
  exact hx
/-- the search -/
theorem road_while (h : Ord o) (h5 : o.length ≤ 5) (L1 : Ln o o.length one) : ∃ B P Q lab s5 s6, whileD tstR (dThen (dSetPop 5 4 (dC (.int 0))) forR) 100 (stR o one other [(one, none)] [one] none none none) = .ok (.nx (stR o one other B Q s5 s6 none)) ∧
    Bf (nb o) one B P Q lab ∧ (∀ x ∈ P ++ Q, Ln o o.length x) ∧ (Q = [] ∨ other ∈ P ++ Q) := by
  obtain ⟨ρ', m, e, ⟨B, P, Q, lab, s5, s6, rfl, b, hL, hn⟩, hf⟩ := while_go (t := tstR) (body := dThen (dSetPop 5 4 (dC (.int 0))) forR)
    (fun n ρ => ∃ B P Q lab s5 s6, ρ = stR o one other B Q s5 s6 none ∧ Bf (nb o) one B P Q lab ∧ (∀ x ∈ P ++ Q, Ln o o.length x) ∧ n + P.length = 60) (by
      rintro n ρ ⟨B, P, Q, lab, s5, s6, rfl, b, hL, hn⟩
      rw [tstR_e b.ks]
      have few := few_ln h5 b.nd hL
      rw [List.length_append] at few
      cases Q with
      | nil => exact .inl rfl
      | cons x Q =>
        by_cases hm : other ∈ P ++ x :: Q
        · rw [decide_eq_true hm]; exact .inl rfl
        · rw [decide_eq_false hm]
          rw [List.length_cons] at few
          obtain ⟨B', Q', lab', s6', e, b', hL'⟩ := road_for (other := other) (s6 := s6) h h5 b hL
          refine .inr ⟨rfl, stR o one other B' Q' (some (.fr (lanD x))) s6' none, n - 1, ?_, by omega, B', P ++ [x], Q', lab', _, _, rfl, b', hL', ?_⟩
          · exact (then_nx (setPop_e (es := (x :: Q).map lanD) (m := 0) rfl rfl (pop0_e (by omega)))).trans e
          · rw [List.length_append, List.length_singleton]; omega) 100 60 (stR o one other [(one, none)] [one] none none none) (by omega) ⟨_, [], _, _, none, none, rfl, Bf.init one, (fun x hx => by rw [List.mem_singleton.mp (show x ∈ [one] from hx)]; exact L1), rfl⟩
  refine ⟨B, P, Q, lab, s5, s6, e, b, hL, ?_⟩
  rw [tstR_e b.ks] at hf
  cases Q with
  | nil => exact .inl rfl
  | cons x Q =>
    right
    by_cases hm : other ∈ P ++ x :: Q
    · exact hm
    · rw [decide_eq_false hm] at hf; cases hf
/-- back to the first -/
theorem road_back {B : Bs} {P Q : List Lns} {lab : Lns → Nat} (b : Bf (nb o) one B P Q lab) (ho : other ∈ P ++ Q) (hl : lab other < 60) {s5 s6 : Option SV} :
    ∃ T, whileD (dTest (dUn notND (dDnGet 3 (dBin idxD (dVar 7) (dUn negD (dC (.int 1))))))) (dApp 7 (dDnGet 3 (dBin idxD (dVar 7) (dUn negD (dC (.int 1)))))) 100 (stR o one other B Q s5 s6 (some (.ow ([other].map lanD)))) = .ok (.nx (stR o one other B Q s5 s6 (some (.ow ((one :: T).reverse.map lanD))))) ∧
      Ch (nb o) (one :: T) ∧ (one :: T).getLastD one = other ∧ T.length = lab other ∧ ∀ x ∈ one :: T, x ∈ P ++ Q := by
  have nd : (B.map (·.1)).Nodup := by rw [b.ks]; exact b.nd
  have hget : ∀ {x : Lns} {T : List Lns} {q : Option Lns}, (x, q) ∈ B → (dDnGet 3 (dBin idxD (dVar 7) (dUn negD (dC (.int 1))))) (stR o one other B Q s5 s6 (some (.ow ((x :: T).reverse.map lanD)))) = .ok (pd q) := fun {x T q} hq =>
    dnget_e (K := kvB B) (x := x) rfl (bin_e (d := .list ((x :: T).reverse.map lanD)) (e := .int (-1)) rfl (un_e (d := .int 1) rfl rfl) lastL_e) (kvB_get nd hq)
  have hin : ∀ x ∈ P ++ Q, ∃ q, (x, q) ∈ B := fun x hx => by
    rw [← b.ks] at hx
    obtain ⟨e, he, rfl⟩ := List.mem_map.mp hx
    exact ⟨e.2, he⟩
  obtain ⟨ρ', m, e, ⟨x, T, rfl, hx, hc, hla, hlen, hall, rfl⟩, hf⟩ := while_go (t := (dTest (dUn notND (dDnGet 3 (dBin idxD (dVar 7) (dUn negD (dC (.int 1)))))))) (body := (dApp 7 (dDnGet 3 (dBin idxD (dVar 7) (dUn negD (dC (.int 1)))))))
    (fun n ρ => ∃ x T, ρ = stR o one other B Q s5 s6 (some (.ow ((x :: T).reverse.map lanD))) ∧ x ∈ P ++ Q ∧ Ch (nb o) (x :: T) ∧ (x :: T).getLastD x = other ∧ T.length + lab x = lab other ∧ (∀ y ∈ x :: T, y ∈ P ++ Q) ∧ n = lab x) (by
      rintro n ρ ⟨x, T, rfl, hx, hc, hla, hlen, hall, rfl⟩
      obtain ⟨q, hq⟩ := hin x hx
      have hg := hget (T := T) hq
      cases q with
      | none => exact .inl (dTest_ok (un_e hg rfl))
      | some p =>
        obtain ⟨h1, h2, h3⟩ := b.pa x p hq
        refine .inr ⟨dTest_ok (un_e hg rfl), stR o one other B Q s5 s6 (some (.ow ((p :: x :: T).reverse.map lanD))), lab p, ?_, by omega, p, x :: T, rfl, List.mem_append_left _ h1, ⟨h2, hc⟩, ?_, by rw [List.length_cons]; omega, ?_, rfl⟩
        · refine (app_e (ds := (x :: T).reverse.map lanD) (d := lanD p) rfl hg ?_).trans ?_
          · rw [List.length_map, List.length_reverse, List.length_cons]; unfold lim; omega
          · rw [show (x :: T).reverse.map lanD ++ [lanD p] = (p :: x :: T).reverse.map lanD by rw [List.reverse_cons (a := p), List.map_append]; rfl]
            rfl
        · rw [← hla]
          cases T <;> rfl
        · intro y hy
          rcases List.mem_cons.mp hy with rfl | hy
          · exact List.mem_append_left _ h1
          · exact hall y hy) 100 (lab other) (stR o one other B Q s5 s6 (some (.ow ([other].map lanD)))) (by omega) ⟨other, [], rfl, ho, trivial, rfl, by simp, fun y hy => by rw [List.mem_singleton.mp hy]; exact ho, rfl⟩
  obtain ⟨q, hq⟩ := hin x hx
  have hg := hget (T := T) hq
  cases q with
  | some p =>
    have : (dTest (dUn notND (dDnGet 3 (dBin idxD (dVar 7) (dUn negD (dC (.int 1))))))) (stR o one other B Q s5 s6 (some (.ow ((x :: T).reverse.map lanD)))) = .ok true := dTest_ok (un_e hg rfl)
    rw [this] at hf
    cases hf
  | none =>
    have := b.pn x hq
    subst this
    refine ⟨T, e, hc, hla, ?_, hall⟩
    have := b.l0
    omega
theorem road_e (h : Ord o) (h5 : o.length ≤ 5) (L1 : Ln o o.length one) (L2 : Ln o o.length other) :
    (∃ T, D_road [ordD o, lanD one, lanD other] = .ok (.list ((one :: T).map lanD)) ∧ Ch (nb o) (one :: T) ∧ (one :: T).getLastD one = other ∧ (∀ x ∈ one :: T, Ln o o.length x) ∧ T.length ≤ 52 ∧ ∀ m, Wk (nb o) one m other → T.length ≤ m) ∨
    (D_road [ordD o, lanD one, lanD other] = .ex ⟨7, none⟩ ∧ ∀ m, ¬ Wk (nb o) one m other) := by
  obtain ⟨B, P, Q, lab, s5, s6, e, b, hL, hend⟩ := road_while (other := other) h h5 L1
  have few := few_ln h5 b.nd hL
  rw [List.length_append] at few
  have t2 : (dTest (dDnIn 3 true (dVar 2))) (stR o one other B Q s5 s6 none) = .ok (!decide (other ∈ P ++ Q)) := by
    refine dTest_ok ((dnin_e (K := kvB B) (x := other) rfl rfl).trans ?_)
    rw [kvB_keys, b.ks]
    cases decide (other ∈ P ++ Q) <;> rfl
  have e3 : dNewDn1 3 (dVar 1) (dC .none) [some (.fr (ordD o)), some (.fr (lanD one)), some (.fr (lanD other)), none, none, none, none, none] = .ok (.nx [some (.fr (ordD o)), some (.fr (lanD one)), some (.fr (lanD other)), some (.cp (.dn (dnE (kvB [(one, none)])))), none, none, none, none]) := by
    unfold dNewDn1
    refine (stE_ok (d := lanD one) rfl).trans ((stE_ok (g := dC .none) (d := PyData.none) rfl).trans ?_)
    rw [kOf_lan]
    rfl
  by_cases hm : other ∈ P ++ Q
  · rw [decide_eq_true hm] at t2
    obtain ⟨T, e7, hc, hla, hlen, hall⟩ := road_back (s5 := s5) (s6 := s6) b hm (by have := b.lb other hm; omega)
    refine .inl ⟨T, ?_, hc, hla, fun x hx => hL x (hall x hx), by have := b.lb other hm; omega, fun m w => by rw [hlen]; exact b.least hm w⟩
    obtain ⟨d, ed, rfl⟩ := rt_fn (n := 8) (ks := [true, true, true]) (ds := [ordD o, lanD one, lanD other]) (G := G_road) (T := fun d => d = .list ((one :: T).map lanD)) (rt_exp (d := .none) (check_lanes_ok h L1) (rt_exp (d := .none) (check_lanes_ok h L2) (rt_nx e3 (rt_setN (ds := [one].map lanD) rfl (rt_nx e (rt_no t2 (rt_setN (ds := [other].map lanD) rfl (rt_nx e7 (rt_ret (d := .list ((one :: T).map lanD)) (un_e (d := .list ((one :: T).reverse.map lanD)) rfl (by
      show some (PyData.list ((one :: T).reverse.map lanD).reverse) = _
      rw [← List.map_reverse, List.reverse_reverse])) rfl)))))))))
    exact ed
  · rw [decide_eq_false hm] at t2
    refine .inr ⟨?_, fun m => ?_⟩
    · refine fn_ex (ρ := stR o one other B Q s5 s6 none) ?_
      refine (then_nx (exp_e (d := .none) (check_lanes_ok h L1))).trans ?_
      refine (then_nx (exp_e (d := .none) (check_lanes_ok h L2))).trans ?_
      refine (then_nx e3).trans ?_
      refine (then_nx (setN_e (ds := [one].map lanD) rfl)).trans ?_
      refine (then_nx e).trans ?_
      exact then_ex ((ifS_e t2).trans rfl)
    · rcases hend with rfl | z
      · exact b.none hm m
      · exact absurd z hm
theorem road_ex1 {d e : PyData} (h : Ord o) (hd : D_are_lanes_of [ordD o, d] = .ok (.bool false)) : D_road [ordD o, d, e] = .ex ⟨5, none⟩ :=
  fn_ex (ρ := [some (.fr (ordD o)), some (.fr d), some (.fr e), none, none, none, none, none]) (then_ex (stE_ex (check_lanes_ex h hd)))
theorem road_ex2 {d : PyData} (h : Ord o) (L1 : Ln o o.length one) (hd : D_are_lanes_of [ordD o, d] = .ok (.bool false)) : D_road [ordD o, lanD one, d] = .ex ⟨5, none⟩ :=
  fn_ex (ρ := [some (.fr (ordD o)), some (.fr (lanD one)), some (.fr d), none, none, none, none, none]) ((then_nx (exp_e (d := .none) (check_lanes_ok h L1))).trans (then_ex (stE_ex (check_lanes_ex h hd))))
end
end Dl
end
section
set_option Elab.async false
set_option linter.all false
set_option autoImplicit false
set_option maxRecDepth 100000
namespace Dl
open PySem L2 VS
theorem tryM_ok {body : Rho → RS} {i : Nat} {cs : List Cl} {ρ : Rho} {z : PyData} (h : body ρ = .ok (.rt z)) : dTryM body i cs ρ = .ok (.rt z) := by
  unfold dTryM
  rw [h]
theorem tryM_ex {body : Rho → RS} {i : Nat} {cs : List Cl} {ρ ρ' : Rho} {x : Exc} (h : body ρ = .ex (x, ρ')) : dTryM body i cs ρ = clD i cs x ρ' := by
  unfold dTryM
  rw [h]
section
variable {o : List Nat} {d e v : PyData}
abbrev bodL : Rho → RS := (dRet (dIf (dTest (dBin eqD (dVar 0) (dC (.int 0)))) (dCall D_road (dCons (dVarF 1) (dCons (dVarF 2) (dCons (dVarF 3) dNil)))) (dCall D_near (dCons (dVarF 1) (dCons (dVarF 2) dNil)))))
theorem led_t0 : (dTest (dBin eqD (dVar 0) (dC (.int 0)))) [some (.fr (.int 0)), some (.fr (ordD o)), some (.fr d), some (.fr e), none] = .ok true := dTest_ok (bin_e rfl rfl (eqI_s.trans rfl))
theorem led_ok (h : D_road [ordD o, d, e] = .ok v) : D__law_led [.int 0, ordD o, d, e] = .ok v := by
  refine fn_rt ?_
  have hb : bodL [some (.fr (.int 0)), some (.fr (ordD o)), some (.fr d), some (.fr e), none] = .ok (.rt v) := by
    refine ret_e ?_
    rw [dIf_s, led_t0]
    exact h
  exact tryM_ok (body := bodL) hb
theorem led_x {x : Exc} (h : D_road [ordD o, d, e] = .ex x) : bodL [some (.fr (.int 0)), some (.fr (ordD o)), some (.fr d), some (.fr e), none] = .ex (x, [some (.fr (.int 0)), some (.fr (ordD o)), some (.fr d), some (.fr e), none]) := by
  refine stE_ex ?_
  rw [dIf_s, led_t0]
  exact h
theorem led_road (h : D_road [ordD o, d, e] = .ex ⟨7, none⟩) : D__law_led [.int 0, ordD o, d, e] = .ok (.str "no") := by
  refine fn_rt ?_
  exact (tryM_ex (body := bodL) (led_x h)).trans rfl
theorem led_lanes (h : D_road [ordD o, d, e] = .ex ⟨5, none⟩) : D__law_led [.int 0, ordD o, d, e] = .ok (.str "lanes") := by
  refine fn_rt ?_
  exact (tryM_ex (body := bodL) (led_x h)).trans rfl
end
theorem mem_tt {x : Lns} {X : List Lns} : tt x ∈ X.map tt ↔ x ∈ X := by
  constructor
  · intro h
    obtain ⟨y, hy, e⟩ := List.mem_map.mp h
    exact tt_inj e ▸ hy
  · exact List.mem_map_of_mem
theorem notIn_lan (x : Lns) (X : List Lns) : notInD (lanD x) (.list (X.map lanD)) = some (.bool (!decide (x ∈ X))) := by
  have := notInL_d (α := TT) (by decide) (tt x) (X.map tt)
  rw [List.map_map] at this
  rw [lan_d, show X.map lanD = X.map (Dt.d ∘ tt) from List.map_congr_left fun a _ => lan_d a]
  refine this.trans ?_
  rw [decide_eq_decide.mpr mem_tt]
theorem ne_nilA (x : List Lns) : neD (.list (x.map lanD)) (.list []) = some (.bool (!x.isEmpty)) := by
  unfold neD
  rw [if_pos ⟨lan_sh x, by rfl⟩]
  cases x with
  | nil => simp [PyData.eqv, PyData.eqvAll]
  | cons a x => simp [PyData.eqv, PyData.eqvAll]
theorem eq_nilA (x : List Lns) : eqD (.list (x.map lanD)) (.list []) = some (.bool x.isEmpty) := by
  unfold eqD
  rw [if_pos ⟨lan_sh x, by rfl⟩]
  cases x with
  | nil => simp [PyData.eqv, PyData.eqvAll]
  | cons a x => simp [PyData.eqv, PyData.eqvAll]
theorem lanSh (x : Lns) : SeqAt.shaped (lanD x) = true := by
  rw [lan_d]
  exact shaped_d (α := TT) (by decide) (tt x)
theorem rng_one (n : Nat) : rngD 1 ((n + 1 : Nat) : Int) = (List.range' 1 n).map eN := by
  unfold rngD
  rw [List.range'_eq_map_range, List.map_map, show (((n + 1 : Nat) : Int) - 1).toNat = n by omega]
  refine List.map_congr_left fun i _ => ?_
  show PyData.int _ = PyData.int _
  congr 1
theorem Ln.ne_nil {o : List Nat} {x : Lns} (h : Ord o) (L : Ln o o.length x) : x ≠ [] := fun e => by
  rw [e] at L
  have h1 := L.fl
  have h2 := h.lo
  simp at h1
  omega
abbrev stL (ns : List Int) (r o : List Nat) (A S : List Lns) (one other : Lns) (fd wd s9 s10 s11 s12 s13 : Option SV) : Rho := [some (.fr (scr ns)), some (.fr (.list (r.map eN))), some (.fr (ordD o)), some (.fr (.list (A.map lanD))), some (.fr (lanD one)), some (.fr (.list (S.map lanD))), some (.fr (lanD other)), fd, wd, s9, s10, s11, s12, s13, none, none]
abbrev lcL : Rho → RE PyData := (dLc [14] (dTg1 14) (dSeq (dCall D__law_moved (dCons (dVarF 2) (dCons (dVarF 13) dNil)))) (dTest (dBin notInD (dVar 14) (dVar 10))) (dVarF 14))
abbrev tstL : Rho → RE Bool := (dAnd (dTest (dBin neD (dVar 9) (dLst dNil))) (dTest (dBin notInD (dVar 6) (dVar 9))))
abbrev bdL : Rho → RS := (dThen (dSet 12 (dLst dNil))
  (dThen (dFor (dTg1 13) (dSeq (dVarF 9)) (dSet 12 (dBin addD (dVar 12) lcL)))
  (dThen (dSet 9 (dUn sortSN (dVar 12)))
  (dThen (dSet 10 (dBin addD (dVar 10) (dVar 9)))
  (dSet 11 (dBin addD (dVar 11) (dC (.int 1))))))))
section
variable {ns : List Int} {r o : List Nat} {A S : List Lns} {one other : Lns} {fd wd : Option SV}
def nw (o : List Nat) (seen : List Lns) (s : Lns) : List Lns := (nb o s).filter fun y => !decide (y ∈ seen)
theorem nw_len {seen : List Lns} {s : Lns} (h : Ord o) (L : Ln o o.length s) : (nw o seen s).length ≤ 49 := by
  have h1 := List.length_filter_le (fun y => !decide (y ∈ seen)) (nb o s)
  have h2 := nb_len L
  have h3 : o.length * o.length ≤ 7 * 7 := Nat.mul_le_mul h.hi h.hi
  unfold nw
  omega
theorem lev_body (h : Ord o) (h5 : o.length ≤ 5) {m : Nat} {lev seen : List Lns} (hnd : lev.Nodup) (hsd : seen.Nodup) (hL : ∀ x ∈ lev, Ln o o.length x) (hS : ∀ x ∈ seen, Ln o o.length x) {s12 s13 : Option SV} :
    ∃ s12' s13', bdL (stL ns r o A S one other fd wd (some (.fr (.list (lev.map lanD)))) (some (.fr (.list (seen.map lanD)))) (some (.fr (eN m))) s12 s13) =
      .ok (.nx (stL ns r o A S one other fd wd (some (.fr (.list ((srtA (ddupA (lev.flatMap (nw o seen)))).map lanD)))) (some (.fr (.list ((seen ++ srtA (ddupA (lev.flatMap (nw o seen)))).map lanD)))) (some (.fr (eN (m + 1)))) s12' s13')) := by
  have f1 := few_ln h5 hnd hL
  have f2 := few_ln h5 hsd hS
  obtain ⟨ρ', e, s13', rfl, _⟩ := nx_for (α := Lns) (en := lanD) (tg := dTg1 13) (gs := dSeq (dVarF 9)) (body := dSet 12 (dBin addD (dVar 12) lcL)) (ρ := stL ns r o A S one other fd wd (some (.fr (.list (lev.map lanD)))) (some (.fr (.list (seen.map lanD)))) (some (.fr (eN m))) (some (.fr (.list []))) s13)
    (fun pre ρ => ∃ s13, ρ = stL ns r o A S one other fd wd (some (.fr (.list (lev.map lanD)))) (some (.fr (.list (seen.map lanD)))) (some (.fr (eN m))) (some (.fr (.list ((pre.flatMap (nw o seen)).map lanD)))) s13 ∧ pre.length ≤ lev.length) lev rfl ⟨s13, rfl, Nat.zero_le _⟩ (by
      rintro pre s post ρ hp ⟨t13, rfl, hpl⟩
      have hs : s ∈ lev := by rw [hp]; simp
      have Ls := hL s hs
      have hlen : pre.length + 1 ≤ lev.length := by
        have := congrArg List.length hp
        rw [List.length_append, List.length_cons] at this
        omega
      have hb := flat_len (f := nw o seen) (B := 49) (l := pre) fun x hx => nw_len h (hL x (by rw [hp]; simp [hx]))
      have hns := nw_len (seen := seen) h Ls
      have hnb := nb_len Ls
      have h49 : o.length * o.length ≤ 7 * 7 := Nat.mul_le_mul h.hi h.hi
      have hlc := dLc_e (en := lanD) (vs := [14]) (b := dTg1 14) (gs := dSeq (dCall D__law_moved (dCons (dVarF 2) (dCons (dVarF 13) dNil)))) (t := dTest (dBin notInD (dVar 14) (dVar 10))) (e := dVarF 14) (ρ := stL ns r o A S one other fd wd (some (.fr (.list (lev.map lanD)))) (some (.fr (.list (seen.map lanD)))) (some (.fr (eN m))) (some (.fr (.list ((pre.flatMap (nw o seen)).map lanD)))) (some (.fr (lanD s)))) (fun y => !decide (y ∈ seen)) lanD (nb o s) (by
          rw [dSeq_s]
          show R.bind (D__law_moved [ordD o, lanD s]) _ = _
          rw [moved_e h Ls]; rfl) (by unfold lim; omega) (fun y hy => by
          refine ⟨[some (.fr (scr ns)), some (.fr (.list (r.map eN))), some (.fr (ordD o)), some (.fr (.list (A.map lanD))), some (.fr (lanD one)), some (.fr (.list (S.map lanD))), some (.fr (lanD other)), fd, wd, some (.fr (.list (lev.map lanD))), some (.fr (.list (seen.map lanD))), some (.fr (eN m)), some (.fr (.list ((pre.flatMap (nw o seen)).map lanD))), some (.fr (lanD s)), some (.fr (lanD y)), none], rfl, ?_, fun _ => rfl⟩
          exact dTest_ok (bin_e (d := lanD y) (e := .list (seen.map lanD)) rfl rfl (notIn_lan y seen)))
      refine ⟨stL ns r o A S one other fd wd (some (.fr (.list (lev.map lanD)))) (some (.fr (.list (seen.map lanD)))) (some (.fr (eN m))) (some (.fr (.list ((pre.flatMap (nw o seen)).map lanD)))) (some (.fr (lanD s))), stL ns r o A S one other fd wd (some (.fr (.list (lev.map lanD)))) (some (.fr (.list (seen.map lanD)))) (some (.fr (eN m))) (some (.fr (.list (((pre ++ [s]).flatMap (nw o seen)).map lanD)))) (some (.fr (lanD s))), rfl, (set_e (d := .list (((pre ++ [s]).flatMap (nw o seen)).map lanD)) ?_).trans rfl, _, rfl, by rw [List.length_append, List.length_singleton]; exact hlen⟩
      refine bin_e (d := .list ((pre.flatMap (nw o seen)).map lanD)) (e := .list ((nw o seen s).map lanD)) rfl hlc ?_
      rw [addL_s (by simp only [List.length_map]; unfold lim; omega), ← List.map_append, List.flatMap_append, List.flatMap_cons, List.flatMap_nil, List.append_nil])
  have hlat : ∀ y ∈ lev.flatMap (nw o seen), Ln o o.length y := fun y hy => by
    obtain ⟨s, hs, hy⟩ := List.mem_flatMap.mp hy
    exact (move_ok (hL s hs) (mem_nb.mp (List.mem_filter.mp hy).1)).1
  have f3 := few_ln h5 (nodup_ddupA (lev.flatMap (nw o seen))) fun y hy => hlat y (mem_ddupA.mp hy)
  have hss := sortSN_e (xs := lev.flatMap (nw o seen)) (fun y hy => (hlat y hy).ne_nil h) (by omega)
  refine ⟨some (.fr (.list ((lev.flatMap (nw o seen)).map lanD))), s13', ?_⟩
  refine (then_nx (set_e (d := .list []) rfl)).trans ?_
  refine (then_nx e).trans ?_
  refine (then_nx (set_e (un_e (d := .list ((lev.flatMap (nw o seen)).map lanD)) rfl hss))).trans ?_
  have hl4 : (srtA (ddupA (lev.flatMap (nw o seen)))).length ≤ 52 := by rw [(srtA_perm _).length_eq]; exact f3
  have ha : addD (.list (seen.map lanD)) (.list ((srtA (ddupA (lev.flatMap (nw o seen)))).map lanD)) = some (.list ((seen ++ srtA (ddupA (lev.flatMap (nw o seen)))).map lanD)) := by
    rw [addL_s (by simp only [List.length_map]; unfold lim; omega), ← List.map_append]
  refine (then_nx (set_e (bin_e (d := .list (seen.map lanD)) rfl rfl ha))).trans ?_
  refine (set_e (d := eN (m + 1)) (bin_e (d := eN m) rfl rfl ?_)).trans rfl
  show some (PyData.int ((m : Int) + 1)) = _
  congr 1
theorem tstL_e {lev : List Lns} {s10 s11 s12 s13 : Option SV} : tstL (stL ns r o A S one other fd wd (some (.fr (.list (lev.map lanD)))) s10 s11 s12 s13) = .ok (!lev.isEmpty && !decide (other ∈ lev)) := by
  have t1 : (dTest (dBin neD (dVar 9) (dLst dNil))) (stL ns r o A S one other fd wd (some (.fr (.list (lev.map lanD)))) s10 s11 s12 s13) = .ok (!lev.isEmpty) := dTest_ok (bin_e (d := .list (lev.map lanD)) rfl rfl (ne_nilA lev))
  have t2 : (dTest (dBin notInD (dVar 6) (dVar 9))) (stL ns r o A S one other fd wd (some (.fr (.list (lev.map lanD)))) s10 s11 s12 s13) = .ok (!decide (other ∈ lev)) := dTest_ok (bin_e (d := lanD other) (e := .list (lev.map lanD)) rfl rfl (notIn_lan other lev))
  unfold tstL
  rw [dAnd_s, t1, R.bind_ok, t2]
  cases lev.isEmpty <;> rfl
theorem lev_while (h : Ord o) (h5 : o.length ≤ 5) (L1 : Ln o o.length one) : ∃ m lev seen s12 s13, whileD tstL bdL 100 (stL ns r o A S one other fd wd (some (.fr (.list ([one].map lanD)))) (some (.fr (.list ([one].map lanD)))) (some (.fr (eN 0))) none none) =
    .ok (.nx (stL ns r o A S one other fd wd (some (.fr (.list (lev.map lanD)))) (some (.fr (.list (seen.map lanD)))) (some (.fr (eN m))) s12 s13)) ∧ Lv (nb o) one other m lev seen ∧ (lev = [] ∨ other ∈ lev) ∧ m ≤ 60 := by
  obtain ⟨ρ', n, e, ⟨m, lev, seen, s12, s13, rfl, lv, hnd, hS, hn⟩, hf⟩ := while_go (t := tstL) (body := bdL)
    (fun n ρ => ∃ m lev seen s12 s13, ρ = stL ns r o A S one other fd wd (some (.fr (.list (lev.map lanD)))) (some (.fr (.list (seen.map lanD)))) (some (.fr (eN m))) s12 s13 ∧ Lv (nb o) one other m lev seen ∧ lev.Nodup ∧ (∀ x ∈ seen, Ln o o.length x) ∧ n + m = 60) (by
      rintro n ρ ⟨m, lev, seen, s12, s13, rfl, lv, hnd, hS, hn⟩
      rw [tstL_e]
      by_cases hl : lev = []
      · rw [hl]; exact .inl rfl
      · by_cases hm : other ∈ lev
        · rw [decide_eq_true hm]; exact .inl (by cases lev.isEmpty <;> rfl)
        · have hc := lv.ct hl
          have few := few_ln h5 lv.nd hS
          have hL : ∀ x ∈ lev, Ln o o.length x := fun x hx => hS x (lv.sb x hx)
          obtain ⟨u12, u13, eb⟩ := lev_body (ns := ns) (r := r) (A := A) (S := S) (one := one) (other := other) (fd := fd) (wd := wd) (m := m) (s12 := s12) (s13 := s13) h h5 hnd lv.nd hL hS
          have hmem : ∀ y, y ∈ srtA (ddupA (lev.flatMap (nw o seen))) ↔ ∃ x ∈ lev, y ∈ nb o x ∧ y ∉ seen := fun y => by
            rw [(srtA_perm _).mem_iff, mem_ddupA, List.mem_flatMap]
            constructor
            · rintro ⟨x, hx, hy⟩
              obtain ⟨h1, h2⟩ := List.mem_filter.mp hy
              exact ⟨x, hx, h1, by simpa using h2⟩
            · rintro ⟨x, hx, h1, h2⟩
              exact ⟨x, hx, List.mem_filter.mpr ⟨h1, by simpa using h2⟩⟩
          have hnd' : (srtA (ddupA (lev.flatMap (nw o seen)))).Nodup := (srtA_perm _).nodup_iff.mpr (nodup_ddupA _)
          refine .inr ⟨?_, _, n - 1, eb, by omega, m + 1, _, _, u12, u13, rfl, lv.next hm hmem hnd', hnd', fun x hx => ?_, by omega⟩
          · rw [decide_eq_false hm, List.isEmpty_eq_false_iff.mpr hl]; rfl
          · rcases List.mem_append.mp hx with hx | hx
            · exact hS x hx
            · obtain ⟨s, hs, hy, _⟩ := (hmem x).mp hx
              exact (move_ok (hL s hs) (mem_nb.mp hy)).1) 100 60 (stL ns r o A S one other fd wd (some (.fr (.list ([one].map lanD)))) (some (.fr (.list ([one].map lanD)))) (some (.fr (eN 0))) none none) (by omega) ⟨0, [one], [one], none, none, rfl, Lv.init one other, by simp, (fun x hx => by rw [List.mem_singleton.mp hx]; exact L1), rfl⟩
  refine ⟨m, lev, seen, s12, s13, e, lv, ?_, by omega⟩
  rw [tstL_e] at hf
  by_cases hl : lev = []
  · exact .inl hl
  · right
    by_cases hm : other ∈ lev
    · exact hm
    · rw [decide_eq_false hm, List.isEmpty_eq_false_iff.mpr hl] at hf; cases hf
end
end Dl
end
section
set_option Elab.async false
set_option linter.all false
set_option autoImplicit false
set_option maxRecDepth 100000
namespace Dl
open PySem L2 VS
theorem last_of {T : List Lns} {x y : Lns} (h : (x :: T).getLastD x = y) : idxD (.list ((x :: T).map lanD)) (.int (-1)) = some (lanD y) := by
  have e : ∃ z U, (x :: T).reverse = z :: U ∧ z = y := by
    refine ⟨(x :: T).getLast (by simp), (x :: T).dropLast.reverse, ?_, ?_⟩
    · conv => lhs; rw [← List.dropLast_concat_getLast (l := x :: T) (by simp)]
      simp
    · rw [← h]
      cases T <;> rfl
  obtain ⟨z, U, e1, rfl⟩ := e
  have := lastL_e (T := U) (x := z)
  rw [← e1, List.reverse_reverse] at this
  exact this
theorem law_true : ∀ ns : List Int, ns.length ≤ 63 → D_law [.list (ns.map .int)] = .ok (.bool true) := by
  intro ns _
  obtain ⟨_, hrow, r, hr60, hr, rfl⟩ := row_ok ns 4 (by omega)
  obtain ⟨_, hord, o, h, hn, rfl⟩ := order_ok ns 2 5 (by omega) (by omega) (by omega)
  have hlo := h.lo
  have h0 : r[0]? = some r[0] := List.getElem?_eq_getElem (by omega)
  have h1 : r[1]? = some r[1] := List.getElem?_eq_getElem (by omega)
  have h2 : r[2]? = some r[2] := List.getElem?_eq_getElem (by omega)
  have h3 : r[3]? = some r[3] := List.getElem?_eq_getElem (by omega)
  have ha0 : r[0] < 1000 := hr _ (List.getElem_mem _)
  have ha1 : r[1] < 1000 := hr _ (List.getElem_mem _)
  generalize r[0] = a0 at h0 ha0
  generalize r[1] = a1 at h1 ha1
  generalize r[2] = a2 at h2
  generalize r[3] = a3 at h3
  have hx0 : idxD (.list (r.map eN)) (.int 0) = some (eN a0) := idxL_e (k := 0) h0
  have hx1 : idxD (.list (r.map eN)) (.int 1) = some (eN a1) := idxL_e (k := 1) h1
  have hx2 : idxD (.list (r.map eN)) (.int 2) = some (eN a2) := idxL_e (k := 2) h2
  have hx3 : idxD (.list (r.map eN)) (.int 3) = some (eN a3) := idxL_e (k := 3) h3
  have harr : D__law_arranged [ordD o, lanD [], eN 0] = .ok (.list ((arrs o 8 [] 0).map lanD)) := arranged_e h (by omega) 8 [] 0 (la_nil o) (Nat.zero_le _) (by omega)
  have hln : ∀ x ∈ arrs o 8 [] 0, Ln o o.length x := arrs_ln 8 [] 0 (Ln.nil o) (Nat.zero_le _)
  have hA := nil_ne o 8 [] 0 (Nat.zero_le _) (by omega)
  have hAl := arrs_bd (o := o) (by omega)
  generalize arrs o 8 [] 0 = A at harr hln hA hAl
  obtain ⟨one, h1A, hpick⟩ := pick_e (gi := dBin idxD (dVar 1) (dC (.int 0))) (ge := dVar 3) (ρ := [some (.fr (scr ns)), some (.fr (.list (r.map eN))), some (.fr (ordD o)), some (.fr (.list (A.map lanD))), none, none, none, none, none, none, none, none, none, none, none, none]) (A := A) (a := a0) (m := 7) (bin_e (d := .list (r.map eN)) rfl rfl hx0) rfl ha0 (by decide) hA
  have L1 := hln one h1A
  have hsame := dLc_e (en := lanD) (vs := [13]) (b := dTg1 13) (gs := dSeq (dVar 3)) (t := dTest (dBin eqD (dUn lenD (dVar 13)) (dUn lenD (dVar 4)))) (e := dVarF 13) (ρ := [some (.fr (scr ns)), some (.fr (.list (r.map eN))), some (.fr (ordD o)), some (.fr (.list (A.map lanD))), some (.fr (lanD one)), none, none, none, none, none, none, none, none, none, none, none]) (fun y => decide (y.length = one.length)) lanD A rfl (by unfold lim; omega) (fun y hy => by
    refine ⟨[some (.fr (scr ns)), some (.fr (.list (r.map eN))), some (.fr (ordD o)), some (.fr (.list (A.map lanD))), some (.fr (lanD one)), none, none, none, none, none, none, none, none, some (.fr (lanD y)), none, none], rfl, dTest_ok (bin_e (un_e (d := lanD y) rfl lenU_s) (un_e (d := lanD one) rfl lenU_s) ?_), fun _ => rfl⟩
    rw [List.length_map, List.length_map, eqI_s, decide_eq_decide.mpr Int.ofNat_inj])
  have hS : A.filter (fun y => decide (y.length = one.length)) ≠ [] := List.ne_nil_of_mem (List.mem_filter.mpr ⟨h1A, decide_eq_true rfl⟩)
  have hSA : ∀ x ∈ A.filter (fun y => decide (y.length = one.length)), x ∈ A := fun x hx => (List.mem_filter.mp hx).1
  generalize A.filter (fun y => decide (y.length = one.length)) = S at hsame hS hSA
  have hother : ∃ other ∈ A, (dIf (dTest (dBin gtD (dBin modD (dBin idxD (dVar 1) (dC (.int 2))) (dC (.int 5))) (dC (.int 0)))) (dBin idxD (dVar 5) (dBin modD (dBin mulI (dBin idxD (dVar 1) (dC (.int 1))) (dC (.int 5))) (dUn lenD (dVar 5)))) (dBin idxD (dVar 3) (dBin modD (dBin mulI (dBin idxD (dVar 1) (dC (.int 1))) (dC (.int 5))) (dUn lenD (dVar 3))))) [some (.fr (scr ns)), some (.fr (.list (r.map eN))), some (.fr (ordD o)), some (.fr (.list (A.map lanD))), some (.fr (lanD one)), some (.fr (.list (S.map lanD))), none, none, none, none, none, none, none, none, none, none] = .ok (lanD other) := by
    have hm5 : modD (eN a2) (.int 5) = some (eN (a2 % 5)) := modI_s (by decide)
    have ht : (dTest (dBin gtD (dBin modD (dBin idxD (dVar 1) (dC (.int 2))) (dC (.int 5))) (dC (.int 0)))) [some (.fr (scr ns)), some (.fr (.list (r.map eN))), some (.fr (ordD o)), some (.fr (.list (A.map lanD))), some (.fr (lanD one)), some (.fr (.list (S.map lanD))), none, none, none, none, none, none, none, none, none, none] = .ok (decide ((0 : Int) < ((a2 % 5 : Nat) : Int))) := dTest_ok (bin_e (bin_e (bin_e (d := .list (r.map eN)) rfl rfl hx2) rfl hm5) rfl gtI_s)
    obtain ⟨x, hx, ex⟩ := pick_e (gi := dBin idxD (dVar 1) (dC (.int 1))) (ge := dVar 5) (ρ := [some (.fr (scr ns)), some (.fr (.list (r.map eN))), some (.fr (ordD o)), some (.fr (.list (A.map lanD))), some (.fr (lanD one)), some (.fr (.list (S.map lanD))), none, none, none, none, none, none, none, none, none, none]) (A := S) (a := a1) (m := 5) (bin_e (d := .list (r.map eN)) rfl rfl hx1) rfl ha1 (by decide) hS
    obtain ⟨y, hy, ey⟩ := pick_e (gi := dBin idxD (dVar 1) (dC (.int 1))) (ge := dVar 3) (ρ := [some (.fr (scr ns)), some (.fr (.list (r.map eN))), some (.fr (ordD o)), some (.fr (.list (A.map lanD))), some (.fr (lanD one)), some (.fr (.list (S.map lanD))), none, none, none, none, none, none, none, none, none, none]) (A := A) (a := a1) (m := 5) (bin_e (d := .list (r.map eN)) rfl rfl hx1) rfl ha1 (by decide) hA
    rw [dIf_s, ht, R.bind_ok]
    cases decide ((0 : Int) < ((a2 % 5 : Nat) : Int)) with
    | true => exact ⟨x, hSA x hx, ex⟩
    | false => exact ⟨y, hy, ey⟩
  obtain ⟨other, h2A, hoth⟩ := hother
  have L2 := hln other h2A
  have hw : ∃ d, ([.none, .list (other.map eT), lanD (other.drop 1), .tuple [.tuple []]] : List PyData)[a3 % 4]? = some d ∧ D_are_lanes_of [ordD o, d] = .ok (.bool false) := by
    have h4 : a3 % 4 = 0 ∨ a3 % 4 = 1 ∨ a3 % 4 = 2 ∨ a3 % 4 = 3 := by omega
    rcases h4 with e | e | e | e
    · rw [e]; exact ⟨_, rfl, are_no_t rfl⟩
    · rw [e]; exact ⟨_, rfl, are_no_t rfl⟩
    · rw [e]; exact ⟨_, rfl, no_tail h L2⟩
    · rw [e]; exact ⟨_, rfl, are_no_0⟩
  obtain ⟨wd, hwd, hwn⟩ := hw
  have hfound : ∃ fv, D__law_led [.int 0, ordD o, lanD one, lanD other] = .ok fv ∧
      ((∃ T, fv = .list ((one :: T).map lanD) ∧ Ch (nb o) (one :: T) ∧ (one :: T).getLastD one = other ∧ (∀ x ∈ one :: T, Ln o o.length x) ∧ T.length ≤ 52 ∧ ∀ m, Wk (nb o) one m other → T.length ≤ m) ∨ (fv = .str "no" ∧ ∀ m, ¬ Wk (nb o) one m other)) := by
    rcases road_e h hn L1 L2 with ⟨T, e, q⟩ | ⟨e, q⟩
    · exact ⟨_, led_ok e, .inl ⟨T, rfl, q⟩⟩
    · exact ⟨_, led_road e, .inr ⟨rfl, q⟩⟩
  obtain ⟨fv, hfv, hcase⟩ := hfound
  obtain ⟨m, lev, seen, s12, s13, hwh, lv, hend, hm60⟩ := lev_while (ns := ns) (r := r) (A := A) (S := S) (other := other) (fd := some (.fr fv)) (wd := some (.fr wd)) h hn L1
  have hm4 : modD (eN a3) (.int 4) = some (eN (a3 % 4)) := modI_s (by decide)
  have et : (dSl sliceD (dVar 6) (dP (dC (.int 1))) dNoP) [some (.fr (scr ns)), some (.fr (.list (r.map eN))), some (.fr (ordD o)), some (.fr (.list (A.map lanD))), some (.fr (lanD one)), some (.fr (.list (S.map lanD))), some (.fr (lanD other)), some (.fr fv), none, none, none, none, none, none, none, none] = .ok (lanD (other.drop 1)) := by
    show R.of (some (PyData.tuple (cutD (other.map eT) (some (((0 : Nat) : Int) + 1)) none))) = _
    rw [cut_drop, ← List.map_drop]; rfl
  have ew : (dBin idxD (dLst (dCons (dC .none) (dCons (dUn listD (dVar 6)) (dCons (dSl sliceD (dVar 6) (dP (dC (.int 1))) dNoP) (dCons (dTup (dCons (dTup dNil) dNil)) dNil))))) (dBin modD (dBin idxD (dVar 1) (dC (.int 3))) (dC (.int 4)))) [some (.fr (scr ns)), some (.fr (.list (r.map eN))), some (.fr (ordD o)), some (.fr (.list (A.map lanD))), some (.fr (lanD one)), some (.fr (.list (S.map lanD))), some (.fr (lanD other)), some (.fr fv), none, none, none, none, none, none, none, none] = .ok wd := by
    refine bin_e (d := .list [.none, .list (other.map eT), lanD (other.drop 1), .tuple [.tuple []]]) ?_ (bin_e (bin_e (d := .list (r.map eN)) rfl rfl hx3) rfl hm4) (idx_any hwd)
    rw [dLst_s, dCons_s, dCons_s, dCons_s, et]
    rfl
  have go : Rt (G_law [some (.fr (scr ns)), none, none, none, none, none, none, none, none, none, none, none, none, none, none, none]) fun d => d = .bool true := by
    refine rt_set (d := .list (r.map eN)) hrow (rt_set (d := ordD o) hord (rt_set (d := .list (A.map lanD)) harr (rt_set (d := lanD one) hpick (rt_set (d := .list (S.map lanD)) hsame (rt_set (d := lanD other) hoth (rt_set (d := fv) hfv (rt_set (d := wd) ew (rt_no (or_ff (ne_same (d := .str "lanes") (led_lanes (road_ex2 h L1 hwn)) rfl (by decide +kernel)) (ne_same (d := .str "lanes") (led_lanes (road_ex1 h hwn)) rfl (by decide +kernel))) (rt_nx (ρ' := stL ns r o A S one other (some (.fr fv)) (some (.fr wd)) (some (.fr (.list ([one].map lanD)))) (some (.fr (.list ([one].map lanD)))) (some (.fr (eN 0))) none none) rfl (rt_nx hwh ?_))))))))))
    have tl : (dTest (dBin eqD (dVar 9) (dLst dNil))) (stL ns r o A S one other (some (.fr fv)) (some (.fr wd)) (some (.fr (.list (lev.map lanD)))) (some (.fr (.list (seen.map lanD)))) (some (.fr (eN m))) s12 s13) = .ok lev.isEmpty := dTest_ok (bin_e (d := .list (lev.map lanD)) rfl rfl (eq_nilA lev))
    by_cases hl : lev = []
    · have hno : ∀ n, ¬ Wk (nb o) one n other := fun n w => by
        have hs : other ∈ seen := by
          rw [hl] at lv
          exact lv.none n other w
        have := lv.ot hs
        rw [hl] at this
        cases this
      have hfno : fv = .str "no" := by
        rcases hcase with ⟨T, rfl, hc, hla, _⟩ | ⟨e, _⟩
        · have := hc.wk (one := one) (j := 0) rfl
          rw [hla] at this
          exact absurd this (hno _)
        · exact e
      rw [hl] at tl
      refine rt_rt (rt_yes (by rw [hl]; exact tl) (rt_ret (d := .bool true) (eq_same (d := .str "no") (by rw [hfno]; rfl) rfl (by decide +kernel)) rfl))
    · rw [List.isEmpty_eq_false_iff.mpr hl] at tl
      have ho : other ∈ lev := hend.resolve_left hl
      have hwm := lv.wk other ho
      refine rt_no tl ?_
      rcases hcase with ⟨T, rfl, hc, hla, hT, h52, hleast⟩ | ⟨_, hno⟩
      · have hTm : T.length = m := by
          have h1 := hleast m hwm
          have h2 := hc.wk (one := one) (j := 0) rfl
          rw [hla, Nat.zero_add] at h2
          have h3 : ¬ T.length < m := fun z => lv.no _ z h2
          omega
        refine rt_no (or_ff (ne_same (d := lanD one) (bin_e (d := .list ((one :: T).map lanD)) (e := .int 0) rfl rfl (idxL_e (k := 0) rfl)) rfl (lanSh _)) (or_ff (ne_same (d := lanD other) (bin_e (d := .list ((one :: T).map lanD)) (e := .int (-1)) rfl (un_e (d := .int 1) rfl rfl) (last_of hla)) rfl (lanSh _)) (ne_same (d := eN (m + 1)) (un_e (d := .list ((one :: T).map lanD)) rfl ?_) (bin_e (d := eN m) rfl rfl ?_) (shI _)))) ?_
        · rw [lenL_s, List.length_map, List.length_cons, hTm]
        · show some (PyData.int ((m : Int) + 1)) = _
          congr 1
        · have l1 := dLc_e (en := eN) (vs := [15]) (b := dTg1 15) (gs := dRng2 (dC (.int 1)) (dUn lenD (dVar 7))) (t := dTest (dBin notInD (dBin idxD (dVar 7) (dVar 15)) (dCall D__law_moved (dCons (dVarF 2) (dCons (dBin idxD (dVar 7) (dBin subD (dVar 15) (dC (.int 1)))) dNil))))) (e := dVarF 15) (ρ := stL ns r o A S one other (some (.fr (.list ((one :: T).map lanD)))) (some (.fr wd)) (some (.fr (.list (lev.map lanD)))) (some (.fr (.list (seen.map lanD)))) (some (.fr (eN m))) s12 s13) (fun _ => false) eN (List.range' 1 T.length) (by
              refine (rng2_e (a := 1) (b := ((T.length + 1 : Nat) : Int)) rfl (un_e (d := .list ((one :: T).map lanD)) rfl (by rw [lenL_s, List.length_map, List.length_cons])) (small_of (by omega)) (small_of (by omega))).trans ?_
              rw [rng_one]) (by rw [List.length_range']; unfold lim; omega) (fun i hi => by
              obtain ⟨k, hk, rfl⟩ := List.mem_range'.mp hi
              have hgx : (one :: T)[k]? = some ((one :: T)[k]'(by rw [List.length_cons]; omega)) := List.getElem?_eq_getElem _
              have hgy : (one :: T)[k + 1]? = some ((one :: T)[k + 1]'(by rw [List.length_cons]; omega)) := List.getElem?_eq_getElem _
              generalize (one :: T)[k]'(by rw [List.length_cons]; omega) = x at hgx
              generalize (one :: T)[k + 1]'(by rw [List.length_cons]; omega) = y at hgy
              have hxy := hc.at hgx hgy
              have Lx := hT x (List.mem_of_getElem? hgx)
              refine ⟨[some (.fr (scr ns)), some (.fr (.list (r.map eN))), some (.fr (ordD o)), some (.fr (.list (A.map lanD))), some (.fr (lanD one)), some (.fr (.list (S.map lanD))), some (.fr (lanD other)), some (.fr (.list ((one :: T).map lanD))), some (.fr wd), some (.fr (.list (lev.map lanD))), some (.fr (.list (seen.map lanD))), some (.fr (eN m)), s12, s13, none, some (.fr (eN (1 + 1 * k)))], rfl, ?_, fun z => by cases z⟩
              have ey : (dBin idxD (dVar 7) (dVar 15)) [some (.fr (scr ns)), some (.fr (.list (r.map eN))), some (.fr (ordD o)), some (.fr (.list (A.map lanD))), some (.fr (lanD one)), some (.fr (.list (S.map lanD))), some (.fr (lanD other)), some (.fr (.list ((one :: T).map lanD))), some (.fr wd), some (.fr (.list (lev.map lanD))), some (.fr (.list (seen.map lanD))), some (.fr (eN m)), s12, s13, none, some (.fr (eN (1 + 1 * k)))] = .ok (lanD y) := bin_e (d := .list ((one :: T).map lanD)) (e := eN (1 + 1 * k)) rfl rfl (idxL_e (by rw [show 1 + 1 * k = k + 1 by omega]; exact hgy))
              have ex : (dBin idxD (dVar 7) (dBin subD (dVar 15) (dC (.int 1)))) [some (.fr (scr ns)), some (.fr (.list (r.map eN))), some (.fr (ordD o)), some (.fr (.list (A.map lanD))), some (.fr (lanD one)), some (.fr (.list (S.map lanD))), some (.fr (lanD other)), some (.fr (.list ((one :: T).map lanD))), some (.fr wd), some (.fr (.list (lev.map lanD))), some (.fr (.list (seen.map lanD))), some (.fr (eN m)), s12, s13, none, some (.fr (eN (1 + 1 * k)))] = .ok (lanD x) := bin_e (d := .list ((one :: T).map lanD)) (e := eN k) rfl (bin_e (d := eN (1 + 1 * k)) rfl rfl (by
                rw [subI_s]
                show some (PyData.int _) = some (PyData.int _)
                congr 2
                omega)) (idxL_e hgx)
              refine dTest_ok (bin_e (e := .list ((nb o x).map lanD)) ey ?_ ?_)
              · rw [dCall_s, dCons_s, dCons_s, ex]
                exact moved_e h Lx
              · rw [notIn_lan, decide_eq_true hxy]; rfl)
          rw [filt_f] at l1
          exact rt_ret (d := .bool true) (bin_e l1 rfl (eqL_same [])) rfl
      · exact absurd hwm (hno m)
  obtain ⟨d, e, rfl⟩ := go
  exact fn_rt e
end Dl
end
set_option Elab.async false
set_option linter.all false
set_option maxRecDepth 100000
set_option maxHeartbeats 4000000
namespace Dl
open PySem L2 VS
theorem all_mk {l : PySem.W.OpenLaw} {w : World} {K : PySem.W.Frag} {h : Heap} {mg : Str → Option Value} {fx f23 f24 f26 f10 f12 f14 f15 f7 f13 f8 f9 f16 f18 f17 f27 f25 f20 f21 f22 f28 C0 C2 C5 C7 : Addr} (X : K.In h) (G : h.Ns mainGlobals mg) (hfa : mg "law" = some (.ref fx))
    {od23 an23 od24 an24 od26 an26 od10 an10 od12 an12 od14 an14 od15 an15 od7 an7 od13 an13 od8 an8 od9 an9 od16 an16 od18 an18 od17 an17 od27 an27 od25 an25 od20 an20 od21 an21 od22 an22 od28 an28 : Option Addr} {sl23 sl24 sl26 sl10 sl12 sl14 sl15 sl7 sl13 sl8 sl9 sl16 sl18 sl17 sl27 sl25 sl20 sl21 sl22 sl28 : Array (Option Value)} {oc23 kV23 dc23 pm23 cd23 ct23 oc24 kV24 dc24 pm24 cd24 ct24 oc26 kV26 dc26 pm26 cd26 ct26 oc10 kV10 dc10 pm10 cd10 ct10 oc12 kV12 dc12 pm12 cd12 ct12 oc14 kV14 dc14 pm14 cd14 ct14 oc15 kV15 dc15 pm15 cd15 ct15 oc7 kV7 dc7 pm7 cd7 ct7 oc13 kV13 dc13 pm13 cd13 ct13 oc8 kV8 dc8 pm8 cd8 ct8 oc9 kV9 dc9 pm9 cd9 ct9 oc16 kV16 dc16 pm16 cd16 ct16 oc18 kV18 dc18 pm18 cd18 ct18 oc17 kV17 dc17 pm17 cd17 ct17 oc27 kV27 dc27 pm27 cd27 ct27 oc25 kV25 dc25 pm25 cd25 ct25 oc20 kV20 dc20 pm20 cd20 ct20 oc21 kV21 dc21 pm21 cd21 ct21 oc22 kV22 dc22 pm22 cd22 ct22 oc28 kV28 dc28 pm28 cd28 ct28 : Value} {t_MAX_CARS : Tok}
    (a23 : PySem.W.nsIn K mainGlobals "_law_in_way" = some (some (.ref f23)))
    (l23 : K.lookup f23 = some ⟨oc23, od23, .func (PySem.W.fnOf "_law_in_way" "_law_in_way" (defArgs s__law_in_way) (defBody s__law_in_way) (defScope s__law_in_way) .none kV23 dc23 pm23 an23 cd23 ct23), sl23⟩)
    (c23 : PySem.W.codeIn K cd23 "_law_in_way" = true)
    (k23 : PySem.W.keepIn K (.ref f23) = true)
    (a24 : PySem.W.nsIn K mainGlobals "_law_free" = some (some (.ref f24)))
    (l24 : K.lookup f24 = some ⟨oc24, od24, .func (PySem.W.fnOf "_law_free" "_law_free" (defArgs s__law_free) (defBody s__law_free) (defScope s__law_free) .none kV24 dc24 pm24 an24 cd24 ct24), sl24⟩)
    (c24 : PySem.W.codeIn K cd24 "_law_free" = true)
    (k24 : PySem.W.keepIn K (.ref f24) = true)
    (a26 : PySem.W.nsIn K mainGlobals "_law_moved" = some (some (.ref f26)))
    (l26 : K.lookup f26 = some ⟨oc26, od26, .func (PySem.W.fnOf "_law_moved" "_law_moved" (defArgs s__law_moved) (defBody s__law_moved) (defScope s__law_moved) .none kV26 dc26 pm26 an26 cd26 ct26), sl26⟩)
    (c26 : PySem.W.codeIn K cd26 "_law_moved" = true)
    (k26 : PySem.W.keepIn K (.ref f26) = true)
    (a10 : PySem.W.nsIn K mainGlobals "blocks" = some (some (.ref f10)))
    (l10 : K.lookup f10 = some ⟨oc10, od10, .func (PySem.W.fnOf "blocks" "blocks" (defArgs s_blocks) (defBody s_blocks) (defScope s_blocks) .none kV10 dc10 pm10 an10 cd10 ct10), sl10⟩)
    (c10 : PySem.W.codeIn K cd10 "blocks" = true)
    (k10 : PySem.W.keepIn K (.ref f10) = true)
    (a12 : PySem.W.nsIn K mainGlobals "is_free_of" = some (some (.ref f12)))
    (l12 : K.lookup f12 = some ⟨oc12, od12, .func (PySem.W.fnOf "is_free_of" "is_free_of" (defArgs s_is_free_of) (defBody s_is_free_of) (defScope s_is_free_of) .none kV12 dc12 pm12 an12 cd12 ct12), sl12⟩)
    (c12 : PySem.W.codeIn K cd12 "is_free_of" = true)
    (k12 : PySem.W.keepIn K (.ref f12) = true)
    (a14 : PySem.W.nsIn K mainGlobals "sorted_lanes" = some (some (.ref f14)))
    (l14 : K.lookup f14 = some ⟨oc14, od14, .func (PySem.W.fnOf "sorted_lanes" "sorted_lanes" (defArgs s_sorted_lanes) (defBody s_sorted_lanes) (defScope s_sorted_lanes) .none kV14 dc14 pm14 an14 cd14 ct14), sl14⟩)
    (c14 : PySem.W.codeIn K cd14 "sorted_lanes" = true)
    (k14 : PySem.W.keepIn K (.ref f14) = true)
    (a15 : PySem.W.nsIn K mainGlobals "near_of" = some (some (.ref f15)))
    (l15 : K.lookup f15 = some ⟨oc15, od15, .func (PySem.W.fnOf "near_of" "near_of" (defArgs s_near_of) (defBody s_near_of) (defScope s_near_of) .none kV15 dc15 pm15 an15 cd15 ct15), sl15⟩)
    (c15 : PySem.W.codeIn K cd15 "near_of" = true)
    (k15 : PySem.W.keepIn K (.ref f15) = true)
    (a7 : PySem.W.nsIn K mainGlobals "in_range" = some (some (.ref f7)))
    (l7 : K.lookup f7 = some ⟨oc7, od7, .func (PySem.W.fnOf "in_range" "in_range" (defArgs s_in_range) (defBody s_in_range) (defScope s_in_range) .none kV7 dc7 pm7 an7 cd7 ct7), sl7⟩)
    (c7 : PySem.W.codeIn K cd7 "in_range" = true)
    (k7 : PySem.W.keepIn K (.ref f7) = true)
    (a13 : PySem.W.nsIn K mainGlobals "are_lanes_of" = some (some (.ref f13)))
    (l13 : K.lookup f13 = some ⟨oc13, od13, .func (PySem.W.fnOf "are_lanes_of" "are_lanes_of" (defArgs s_are_lanes_of) (defBody s_are_lanes_of) (defScope s_are_lanes_of) .none kV13 dc13 pm13 an13 cd13 ct13), sl13⟩)
    (c13 : PySem.W.codeIn K cd13 "are_lanes_of" = true)
    (k13 : PySem.W.keepIn K (.ref f13) = true)
    (a8 : PySem.W.nsIn K mainGlobals "is_order" = some (some (.ref f8)))
    (l8 : K.lookup f8 = some ⟨oc8, od8, .func (PySem.W.fnOf "is_order" "is_order" (defArgs s_is_order) (defBody s_is_order) (defScope s_is_order) .none kV8 dc8 pm8 an8 cd8 ct8), sl8⟩)
    (c8 : PySem.W.codeIn K cd8 "is_order" = true)
    (k8 : PySem.W.keepIn K (.ref f8) = true)
    (a9 : PySem.W.nsIn K mainGlobals "check_order" = some (some (.ref f9)))
    (l9 : K.lookup f9 = some ⟨oc9, od9, .func (PySem.W.fnOf "check_order" "check_order" (defArgs s_check_order) (defBody s_check_order) (defScope s_check_order) .none kV9 dc9 pm9 an9 cd9 ct9), sl9⟩)
    (c9 : PySem.W.codeIn K cd9 "check_order" = true)
    (k9 : PySem.W.keepIn K (.ref f9) = true)
    (a16 : PySem.W.nsIn K mainGlobals "check_lanes" = some (some (.ref f16)))
    (l16 : K.lookup f16 = some ⟨oc16, od16, .func (PySem.W.fnOf "check_lanes" "check_lanes" (defArgs s_check_lanes) (defBody s_check_lanes) (defScope s_check_lanes) .none kV16 dc16 pm16 an16 cd16 ct16), sl16⟩)
    (c16 : PySem.W.codeIn K cd16 "check_lanes" = true)
    (k16 : PySem.W.keepIn K (.ref f16) = true)
    (a18 : PySem.W.nsIn K mainGlobals "road" = some (some (.ref f18)))
    (l18 : K.lookup f18 = some ⟨oc18, od18, .func (PySem.W.fnOf "road" "road" (defArgs s_road) (defBody s_road) (defScope s_road) .none kV18 dc18 pm18 an18 cd18 ct18), sl18⟩)
    (c18 : PySem.W.codeIn K cd18 "road" = true)
    (k18 : PySem.W.keepIn K (.ref f18) = true)
    (a17 : PySem.W.nsIn K mainGlobals "near" = some (some (.ref f17)))
    (l17 : K.lookup f17 = some ⟨oc17, od17, .func (PySem.W.fnOf "near" "near" (defArgs s_near) (defBody s_near) (defScope s_near) .none kV17 dc17 pm17 an17 cd17 ct17), sl17⟩)
    (c17 : PySem.W.codeIn K cd17 "near" = true)
    (k17 : PySem.W.keepIn K (.ref f17) = true)
    (a27 : PySem.W.nsIn K mainGlobals "_law_led" = some (some (.ref f27)))
    (l27 : K.lookup f27 = some ⟨oc27, od27, .func (PySem.W.fnOf "_law_led" "_law_led" (defArgs s__law_led) (defBody s__law_led) (defScope s__law_led) .none kV27 dc27 pm27 an27 cd27 ct27), sl27⟩)
    (c27 : PySem.W.codeIn K cd27 "_law_led" = true)
    (k27 : PySem.W.keepIn K (.ref f27) = true)
    (a25 : PySem.W.nsIn K mainGlobals "_law_arranged" = some (some (.ref f25)))
    (l25 : K.lookup f25 = some ⟨oc25, od25, .func (PySem.W.fnOf "_law_arranged" "_law_arranged" (defArgs s__law_arranged) (defBody s__law_arranged) (defScope s__law_arranged) .none kV25 dc25 pm25 an25 cd25 ct25), sl25⟩)
    (c25 : PySem.W.codeIn K cd25 "_law_arranged" = true)
    (k25 : PySem.W.keepIn K (.ref f25) = true)
    (a20 : PySem.W.nsIn K mainGlobals "_law_cell" = some (some (.ref f20)))
    (l20 : K.lookup f20 = some ⟨oc20, od20, .func (PySem.W.fnOf "_law_cell" "_law_cell" (defArgs s__law_cell) (defBody s__law_cell) (defScope s__law_cell) .none kV20 dc20 pm20 an20 cd20 ct20), sl20⟩)
    (c20 : PySem.W.codeIn K cd20 "_law_cell" = true)
    (k20 : PySem.W.keepIn K (.ref f20) = true)
    (a21 : PySem.W.nsIn K mainGlobals "_law_row" = some (some (.ref f21)))
    (l21 : K.lookup f21 = some ⟨oc21, od21, .func (PySem.W.fnOf "_law_row" "_law_row" (defArgs s__law_row) (defBody s__law_row) (defScope s__law_row) .none kV21 dc21 pm21 an21 cd21 ct21), sl21⟩)
    (c21 : PySem.W.codeIn K cd21 "_law_row" = true)
    (k21 : PySem.W.keepIn K (.ref f21) = true)
    (a22 : PySem.W.nsIn K mainGlobals "_law_order" = some (some (.ref f22)))
    (l22 : K.lookup f22 = some ⟨oc22, od22, .func (PySem.W.fnOf "_law_order" "_law_order" (defArgs s__law_order) (defBody s__law_order) (defScope s__law_order) .none kV22 dc22 pm22 an22 cd22 ct22), sl22⟩)
    (c22 : PySem.W.codeIn K cd22 "_law_order" = true)
    (k22 : PySem.W.keepIn K (.ref f22) = true)
    (a28 : PySem.W.nsIn K mainGlobals "law" = some (some (.ref f28)))
    (l28 : K.lookup f28 = some ⟨oc28, od28, .func (PySem.W.fnOf "law" "law" (defArgs s_law) (defBody s_law) (defScope s_law) .none kV28 dc28 pm28 an28 cd28 ct28), sl28⟩)
    (c28 : PySem.W.codeIn K cd28 "law" = true)
    (k28 : PySem.W.keepIn K (.ref f28) = true)
    (z_bool : PySem.W.nsIn K mainGlobals "bool" = some none)
    (z_enumerate : PySem.W.nsIn K mainGlobals "enumerate" = some none)
    (z_int : PySem.W.nsIn K mainGlobals "int" = some none)
    (z_isinstance : PySem.W.nsIn K mainGlobals "isinstance" = some none)
    (z_len : PySem.W.nsIn K mainGlobals "len" = some none)
    (z_list : PySem.W.nsIn K mainGlobals "list" = some none)
    (z_min : PySem.W.nsIn K mainGlobals "min" = some none)
    (z_range : PySem.W.nsIn K mainGlobals "range" = some none)
    (z_set : PySem.W.nsIn K mainGlobals "set" = some none)
    (z_sorted : PySem.W.nsIn K mainGlobals "sorted" = some none)
    (z_tuple : PySem.W.nsIn K mainGlobals "tuple" = some none)
    (v_MAX_CARS : PySem.W.nsIn K mainGlobals "MAX_CARS" = some (some (.int 7 t_MAX_CARS)))
    (xa0 : PySem.W.nsIn K mainGlobals "LaneError" = some (some (.ref C0)))
    (xx0 : PySem.W.excIn K C0 [.type "ValueError", .type "Exception", .type "BaseException", .type "object"] "ValueError.__new__" = true)
    (xk0 : PySem.W.keepIn K (.ref C0) = true)
    (xb0 : PySem.W.subIn K (.ref C0) (.type "BaseException") = some true)
    (xt0 : PySem.W.typeIn K (.ref C0) = some (.type "type"))
    (xa2 : PySem.W.nsIn K mainGlobals "InvalidOrder" = some (some (.ref C2)))
    (xx2 : PySem.W.excIn K C2 [.type "ValueError", .type "Exception", .type "BaseException", .type "object"] "ValueError.__new__" = true)
    (xk2 : PySem.W.keepIn K (.ref C2) = true)
    (xb2 : PySem.W.subIn K (.ref C2) (.type "BaseException") = some true)
    (xt2 : PySem.W.typeIn K (.ref C2) = some (.type "type"))
    (xa5 : PySem.W.nsIn K mainGlobals "InvalidLanes" = some (some (.ref C5)))
    (xx5 : PySem.W.excIn K C5 [.type "ValueError", .type "Exception", .type "BaseException", .type "object"] "ValueError.__new__" = true)
    (xk5 : PySem.W.keepIn K (.ref C5) = true)
    (xb5 : PySem.W.subIn K (.ref C5) (.type "BaseException") = some true)
    (xt5 : PySem.W.typeIn K (.ref C5) = some (.type "type"))
    (xa7 : PySem.W.nsIn K mainGlobals "NoRoad" = some (some (.ref C7)))
    (xx7 : PySem.W.excIn K C7 [.type "ValueError", .type "Exception", .type "BaseException", .type "object"] "ValueError.__new__" = true)
    (xk7 : PySem.W.keepIn K (.ref C7) = true)
    (xb7 : PySem.W.subIn K (.ref C7) (.type "BaseException") = some true)
    (xt7 : PySem.W.typeIn K (.ref C7) = some (.type "type"))
    (hg2 : PySem.W.findIn K (.ref C2) "__getattribute__" = some (some (.builtin "BaseException.__getattribute__")))
    (hk2 : PySem.W.findIn K (.ref C2) "__getattr__" = some none)
    (hd2 : PySem.W.hasDictIn K C2 = true)
    (ha2 : PySem.W.findIn K (.ref C2) "__class__" = some (some (.builtin "object.__class__")))
    (hm2 : PySem.W.mroIn K C2 (.type "object") = some true)
    (sb2_0 : PySem.W.subIn K (.ref C2) (.ref C0) = some true)
    (sb2_2 : PySem.W.subIn K (.ref C2) (.ref C2) = some true)
    (sb2_5 : PySem.W.subIn K (.ref C2) (.ref C5) = some false)
    (sb2_7 : PySem.W.subIn K (.ref C2) (.ref C7) = some false)
    (hg5 : PySem.W.findIn K (.ref C5) "__getattribute__" = some (some (.builtin "BaseException.__getattribute__")))
    (hk5 : PySem.W.findIn K (.ref C5) "__getattr__" = some none)
    (hd5 : PySem.W.hasDictIn K C5 = true)
    (ha5 : PySem.W.findIn K (.ref C5) "__class__" = some (some (.builtin "object.__class__")))
    (hm5 : PySem.W.mroIn K C5 (.type "object") = some true)
    (sb5_0 : PySem.W.subIn K (.ref C5) (.ref C0) = some true)
    (sb5_2 : PySem.W.subIn K (.ref C5) (.ref C2) = some false)
    (sb5_5 : PySem.W.subIn K (.ref C5) (.ref C5) = some true)
    (sb5_7 : PySem.W.subIn K (.ref C5) (.ref C7) = some false)
    (hg7 : PySem.W.findIn K (.ref C7) "__getattribute__" = some (some (.builtin "BaseException.__getattribute__")))
    (hk7 : PySem.W.findIn K (.ref C7) "__getattr__" = some none)
    (hd7 : PySem.W.hasDictIn K C7 = true)
    (ha7 : PySem.W.findIn K (.ref C7) "__class__" = some (some (.builtin "object.__class__")))
    (hm7 : PySem.W.mroIn K C7 (.type "object") = some true)
    (sb7_0 : PySem.W.subIn K (.ref C7) (.ref C0) = some true)
    (sb7_2 : PySem.W.subIn K (.ref C7) (.ref C2) = some false)
    (sb7_5 : PySem.W.subIn K (.ref C7) (.ref C5) = some false)
    (sb7_7 : PySem.W.subIn K (.ref C7) (.ref C7) = some true)
    (hd0 : PySem.W.hasDictIn K C0 = true)
    (sb0_0 : PySem.W.subIn K (.ref C0) (.ref C0) = some true)
    (hn : PySem.W.specialIn K (.builtin "object.__class__") "__get__" = some (some (.builtin "getset_descriptor.__get__")))
    (ht : PySem.W.takesIn K (.builtin "object.__class__") = some true)
    (hlaw : ∀ ns : List Int, ns.length ≤ 63 → D_law [.list (ns.map .int)] = .ok (.bool true)) :
    ∃ fd : FuncData, (∀ (s : Shared) (v : Value), BindsTo s fd ⟨[v], []⟩ [("script", v)]) ∧ ∀ base : Heap, K.In base → base.Ns mainGlobals mg → FnOk l.prog w K mg base (L2.CX l.prog w) 15 fx fd ["script"] (spLaw K) := by
  have e := hfa.symm.trans (PySem.W.mg_of X G a28)
  have e2 : fx = f28 := by cases e; rfl
  rw [e2]
  have F23 := fun_mk (st := s__law_in_way) l23 c23 k23
  have B23 := F23.binds (ps := ["order", "car", "later"]) fun _ _ _ _ _ _ us hl => match us, hl with | [_, _, _], _ => rfl
  have F24 := fun_mk (st := s__law_free) l24 c24 k24
  have B24 := F24.binds (ps := ["order", "lane"]) fun _ _ _ _ _ _ us hl => match us, hl with | [_, _], _ => rfl
  have F26 := fun_mk (st := s__law_moved) l26 c26 k26
  have B26 := F26.binds (ps := ["order", "lanes_here"]) fun _ _ _ _ _ _ us hl => match us, hl with | [_, _], _ => rfl
  have F10 := fun_mk (st := s_blocks) l10 c10 k10
  have B10 := F10.binds (ps := ["order", "car", "later"]) fun _ _ _ _ _ _ us hl => match us, hl with | [_, _, _], _ => rfl
  have F12 := fun_mk (st := s_is_free_of) l12 c12 k12
  have B12 := F12.binds (ps := ["order", "some"]) fun _ _ _ _ _ _ us hl => match us, hl with | [_, _], _ => rfl
  have F14 := fun_mk (st := s_sorted_lanes) l14 c14 k14
  have B14 := F14.binds (ps := ["lanes"]) fun _ _ _ _ _ _ us hl => match us, hl with | [_], _ => rfl
  have F15 := fun_mk (st := s_near_of) l15 c15 k15
  have B15 := F15.binds (ps := ["order", "lanes"]) fun _ _ _ _ _ _ us hl => match us, hl with | [_, _], _ => rfl
  have F7 := fun_mk (st := s_in_range) l7 c7 k7
  have B7 := F7.binds (ps := ["value", "low", "high"]) fun _ _ _ _ _ _ us hl => match us, hl with | [_, _, _], _ => rfl
  have F13 := fun_mk (st := s_are_lanes_of) l13 c13 k13
  have B13 := F13.binds (ps := ["order", "value"]) fun _ _ _ _ _ _ us hl => match us, hl with | [_, _], _ => rfl
  have F8 := fun_mk (st := s_is_order) l8 c8 k8
  have B8 := F8.binds (ps := ["value"]) fun _ _ _ _ _ _ us hl => match us, hl with | [_], _ => rfl
  have F9 := fun_mk (st := s_check_order) l9 c9 k9
  have B9 := F9.binds (ps := ["order"]) fun _ _ _ _ _ _ us hl => match us, hl with | [_], _ => rfl
  have F16 := fun_mk (st := s_check_lanes) l16 c16 k16
  have B16 := F16.binds (ps := ["order", "lanes"]) fun _ _ _ _ _ _ us hl => match us, hl with | [_, _], _ => rfl
  have F18 := fun_mk (st := s_road) l18 c18 k18
  have B18 := F18.binds (ps := ["order", "one", "other"]) fun _ _ _ _ _ _ us hl => match us, hl with | [_, _, _], _ => rfl
  have F17 := fun_mk (st := s_near) l17 c17 k17
  have B17 := F17.binds (ps := ["order", "lanes"]) fun _ _ _ _ _ _ us hl => match us, hl with | [_, _], _ => rfl
  have F27 := fun_mk (st := s__law_led) l27 c27 k27
  have B27 := F27.binds (ps := ["mode", "order", "one", "other"]) fun _ _ _ _ _ _ us hl => match us, hl with | [_, _, _, _], _ => rfl
  have F25 := fun_mk (st := s__law_arranged) l25 c25 k25
  have B25 := F25.binds (ps := ["order", "lanes_here", "car"]) fun _ _ _ _ _ _ us hl => match us, hl with | [_, _, _], _ => rfl
  have F20 := fun_mk (st := s__law_cell) l20 c20 k20
  have B20 := F20.binds (ps := ["script", "k"]) fun _ _ _ _ _ _ us hl => match us, hl with | [_, _], _ => rfl
  have F21 := fun_mk (st := s__law_row) l21 c21 k21
  have B21 := F21.binds (ps := ["script", "at"]) fun _ _ _ _ _ _ us hl => match us, hl with | [_, _], _ => rfl
  have F22 := fun_mk (st := s__law_order) l22 c22 k22
  have B22 := F22.binds (ps := ["script", "at", "most"]) fun _ _ _ _ _ _ us hl => match us, hl with | [_, _, _], _ => rfl
  have F28 := fun_mk (st := s_law) l28 c28 k28
  have B28 := F28.binds (ps := ["script"]) fun _ _ _ _ _ _ us hl => match us, hl with | [_], _ => rfl
  have T : Txt K mg (fun i => match i with | 0 => C0 | 2 => C2 | 5 => C5 | 7 => C7 | _ => 0) (fun i => match i with | 23 => f23 | 24 => f24 | 26 => f26 | 10 => f10 | 12 => f12 | 14 => f14 | 15 => f15 | 7 => f7 | 13 => f13 | 8 => f8 | 9 => f9 | 16 => f16 | 18 => f18 | 17 => f17 | 27 => f27 | 25 => f25 | 20 => f20 | 21 => f21 | 22 => f22 | 28 => f28 | _ => 0) (fun i => match i with | 23 => PySem.W.fnOf "_law_in_way" "_law_in_way" (defArgs s__law_in_way) (defBody s__law_in_way) (defScope s__law_in_way) .none kV23 dc23 pm23 an23 cd23 ct23 | 24 => PySem.W.fnOf "_law_free" "_law_free" (defArgs s__law_free) (defBody s__law_free) (defScope s__law_free) .none kV24 dc24 pm24 an24 cd24 ct24 | 26 => PySem.W.fnOf "_law_moved" "_law_moved" (defArgs s__law_moved) (defBody s__law_moved) (defScope s__law_moved) .none kV26 dc26 pm26 an26 cd26 ct26 | 10 => PySem.W.fnOf "blocks" "blocks" (defArgs s_blocks) (defBody s_blocks) (defScope s_blocks) .none kV10 dc10 pm10 an10 cd10 ct10 | 12 => PySem.W.fnOf "is_free_of" "is_free_of" (defArgs s_is_free_of) (defBody s_is_free_of) (defScope s_is_free_of) .none kV12 dc12 pm12 an12 cd12 ct12 | 14 => PySem.W.fnOf "sorted_lanes" "sorted_lanes" (defArgs s_sorted_lanes) (defBody s_sorted_lanes) (defScope s_sorted_lanes) .none kV14 dc14 pm14 an14 cd14 ct14 | 15 => PySem.W.fnOf "near_of" "near_of" (defArgs s_near_of) (defBody s_near_of) (defScope s_near_of) .none kV15 dc15 pm15 an15 cd15 ct15 | 7 => PySem.W.fnOf "in_range" "in_range" (defArgs s_in_range) (defBody s_in_range) (defScope s_in_range) .none kV7 dc7 pm7 an7 cd7 ct7 | 13 => PySem.W.fnOf "are_lanes_of" "are_lanes_of" (defArgs s_are_lanes_of) (defBody s_are_lanes_of) (defScope s_are_lanes_of) .none kV13 dc13 pm13 an13 cd13 ct13 | 8 => PySem.W.fnOf "is_order" "is_order" (defArgs s_is_order) (defBody s_is_order) (defScope s_is_order) .none kV8 dc8 pm8 an8 cd8 ct8 | 9 => PySem.W.fnOf "check_order" "check_order" (defArgs s_check_order) (defBody s_check_order) (defScope s_check_order) .none kV9 dc9 pm9 an9 cd9 ct9 | 16 => PySem.W.fnOf "check_lanes" "check_lanes" (defArgs s_check_lanes) (defBody s_check_lanes) (defScope s_check_lanes) .none kV16 dc16 pm16 an16 cd16 ct16 | 18 => PySem.W.fnOf "road" "road" (defArgs s_road) (defBody s_road) (defScope s_road) .none kV18 dc18 pm18 an18 cd18 ct18 | 17 => PySem.W.fnOf "near" "near" (defArgs s_near) (defBody s_near) (defScope s_near) .none kV17 dc17 pm17 an17 cd17 ct17 | 27 => PySem.W.fnOf "_law_led" "_law_led" (defArgs s__law_led) (defBody s__law_led) (defScope s__law_led) .none kV27 dc27 pm27 an27 cd27 ct27 | 25 => PySem.W.fnOf "_law_arranged" "_law_arranged" (defArgs s__law_arranged) (defBody s__law_arranged) (defScope s__law_arranged) .none kV25 dc25 pm25 an25 cd25 ct25 | 20 => PySem.W.fnOf "_law_cell" "_law_cell" (defArgs s__law_cell) (defBody s__law_cell) (defScope s__law_cell) .none kV20 dc20 pm20 an20 cd20 ct20 | 21 => PySem.W.fnOf "_law_row" "_law_row" (defArgs s__law_row) (defBody s__law_row) (defScope s__law_row) .none kV21 dc21 pm21 an21 cd21 ct21 | 22 => PySem.W.fnOf "_law_order" "_law_order" (defArgs s__law_order) (defBody s__law_order) (defScope s__law_order) .none kV22 dc22 pm22 an22 cd22 ct22 | 28 => PySem.W.fnOf "law" "law" (defArgs s_law) (defBody s_law) (defScope s_law) .none kV28 dc28 pm28 an28 cd28 ct28 | _ => PySem.W.fnOf "law" "law" (defArgs s_law) (defBody s_law) (defScope s_law) .none kV28 dc28 pm28 an28 cd28 ct28) :=
    ⟨⟨F23, B23, PySem.W.mg_of X G a23⟩, ⟨F24, B24, PySem.W.mg_of X G a24⟩, ⟨F26, B26, PySem.W.mg_of X G a26⟩, ⟨F10, B10, PySem.W.mg_of X G a10⟩, ⟨F12, B12, PySem.W.mg_of X G a12⟩, ⟨F14, B14, PySem.W.mg_of X G a14⟩, ⟨F15, B15, PySem.W.mg_of X G a15⟩, ⟨F7, B7, PySem.W.mg_of X G a7⟩, ⟨F13, B13, PySem.W.mg_of X G a13⟩, ⟨F8, B8, PySem.W.mg_of X G a8⟩, ⟨F9, B9, PySem.W.mg_of X G a9⟩, ⟨F16, B16, PySem.W.mg_of X G a16⟩, ⟨F18, B18, PySem.W.mg_of X G a18⟩, ⟨F17, B17, PySem.W.mg_of X G a17⟩, ⟨F27, B27, PySem.W.mg_of X G a27⟩, ⟨F25, B25, PySem.W.mg_of X G a25⟩, ⟨F20, B20, PySem.W.mg_of X G a20⟩, ⟨F21, B21, PySem.W.mg_of X G a21⟩, ⟨F22, B22, PySem.W.mg_of X G a22⟩, ⟨F28, B28, PySem.W.mg_of X G a28⟩, PySem.W.mg_none_of X G z_bool, PySem.W.mg_none_of X G z_enumerate, PySem.W.mg_none_of X G z_int, PySem.W.mg_none_of X G z_isinstance, PySem.W.mg_none_of X G z_len, PySem.W.mg_none_of X G z_list, PySem.W.mg_none_of X G z_min, PySem.W.mg_none_of X G z_range, PySem.W.mg_none_of X G z_set, PySem.W.mg_none_of X G z_sorted, PySem.W.mg_none_of X G z_tuple, ⟨_, PySem.W.mg_of X G v_MAX_CARS⟩, ⟨xx0, PySem.W.mg_of X G xa0, xk0, xb0, xt0⟩, ⟨xx2, PySem.W.mg_of X G xa2, xk2, xb2, xt2⟩, ⟨xx5, PySem.W.mg_of X G xa5, xk5, xb5, xt5⟩, ⟨xx7, PySem.W.mg_of X G xa7, xk7, xb7, xt7⟩, (fun y hy => by
      simp only [List.mem_cons, List.not_mem_nil, or_false] at hy
      rcases hy with rfl | rfl | rfl
      · exact ⟨hg2, hk2, xb2, hd2, ha2, hn, ht, hm2⟩
      · exact ⟨hg5, hk5, xb5, hd5, ha5, hn, ht, hm5⟩
      · exact ⟨hg7, hk7, xb7, hd7, ha7, hn, ht, hm7⟩
), (fun y hy => by
      simp only [List.mem_cons, List.not_mem_nil, or_false] at hy
      rcases hy with rfl | rfl | rfl
      · intro c hc
        simp only [List.mem_cons, List.not_mem_nil, or_false] at hc
        rcases hc with rfl | rfl | rfl | rfl
        · exact kit_own hd0 xt0 sb2_0 sb0_0
        · exact kit_own hd2 xt2 sb2_2 sb2_2
        · exact kit_own hd5 xt5 sb2_5 sb5_5
        · exact kit_own hd7 xt7 sb2_7 sb7_7

      · intro c hc
        simp only [List.mem_cons, List.not_mem_nil, or_false] at hc
        rcases hc with rfl | rfl | rfl | rfl
        · exact kit_own hd0 xt0 sb5_0 sb0_0
        · exact kit_own hd2 xt2 sb5_2 sb2_2
        · exact kit_own hd5 xt5 sb5_5 sb5_5
        · exact kit_own hd7 xt7 sb5_7 sb7_7

      · intro c hc
        simp only [List.mem_cons, List.not_mem_nil, or_false] at hc
        rcases hc with rfl | rfl | rfl | rfl
        · exact kit_own hd0 xt0 sb7_0 sb0_0
        · exact kit_own hd2 xt2 sb7_2 sb2_2
        · exact kit_own hd5 xt5 sb7_5 sb5_5
        · exact kit_own hd7 xt7 sb7_7 sb7_7

), (fun y hy => by
      simp only [List.mem_cons, List.not_mem_nil, or_false] at hy
      rcases hy with rfl | rfl | rfl
      · intro c hc
        simp only [List.mem_cons, List.not_mem_nil, or_false] at hc
        rcases hc with rfl | rfl | rfl | rfl
        · exact PySem.W.exm_ref xb0 hd0 xt0 sb2_0
        · exact PySem.W.exm_ref xb2 hd2 xt2 sb2_2
        · exact PySem.W.exm_ref xb5 hd5 xt5 sb2_5
        · exact PySem.W.exm_ref xb7 hd7 xt7 sb2_7

      · intro c hc
        simp only [List.mem_cons, List.not_mem_nil, or_false] at hc
        rcases hc with rfl | rfl | rfl | rfl
        · exact PySem.W.exm_ref xb0 hd0 xt0 sb5_0
        · exact PySem.W.exm_ref xb2 hd2 xt2 sb5_2
        · exact PySem.W.exm_ref xb5 hd5 xt5 sb5_5
        · exact PySem.W.exm_ref xb7 hd7 xt7 sb5_7

      · intro c hc
        simp only [List.mem_cons, List.not_mem_nil, or_false] at hc
        rcases hc with rfl | rfl | rfl | rfl
        · exact PySem.W.exm_ref xb0 hd0 xt0 sb7_0
        · exact PySem.W.exm_ref xb2 hd2 xt2 sb7_2
        · exact PySem.W.exm_ref xb5 hd5 xt5 sb7_5
        · exact PySem.W.exm_ref xb7 hd7 xt7 sb7_7

)⟩
  exact ⟨PySem.W.fnOf "law" "law" (defArgs s_law) (defBody s_law) (defScope s_law) .none kV28 dc28 pm28 an28 cd28 ct28, fun s v => .of_eq rfl, fun base _ _ => law_of (ok_law T) hlaw⟩
end Dl
open PySem PySem.W PyProof.Rows
set_option maxHeartbeats 0 in
theorem PySem.Challenge.cw_deadendlanes_k10_whole_roads_holds : PySem.Challenge.rw_deadendlanes_k10_whole_roads.Holds := by
  w_on; o_law; k_head; (case hw => w_witness2)
  k_fill
  refine L2.walk_of (l := PySem.Challenge.rw_deadendlanes_k10_whole_roads) (n := 63) (k := 15) (x := "script") (CX := fun w => L2.CX PySem.Challenge.rw_deadendlanes_k10_whole_roads.prog w) (sp := fun w => VS.spLaw _) rfl (by decide) rfl ⟨rfl, by decide, by decide⟩ (fun w h Y => PySem.W.kIn_of Y) ?F (fun _ _ a ns hl _ hS => ⟨a, ns, rfl, hS, hl, fun _ => rfl⟩) (fun _ _ _ _ _ h => VS.cx_no h)
  case F =>
    intro w mg fa h KX G hmg
    refine' Dl.all_mk KX G hmg ?a23 ?l23 ?c23 ?k23 ?a24 ?l24 ?c24 ?k24 ?a26 ?l26 ?c26 ?k26 ?a10 ?l10 ?c10 ?k10 ?a12 ?l12 ?c12 ?k12 ?a14 ?l14 ?c14 ?k14 ?a15 ?l15 ?c15 ?k15 ?a7 ?l7 ?c7 ?k7 ?a13 ?l13 ?c13 ?k13 ?a8 ?l8 ?c8 ?k8 ?a9 ?l9 ?c9 ?k9 ?a16 ?l16 ?c16 ?k16 ?a18 ?l18 ?c18 ?k18 ?a17 ?l17 ?c17 ?k17 ?a27 ?l27 ?c27 ?k27 ?a25 ?l25 ?c25 ?k25 ?a20 ?l20 ?c20 ?k20 ?a21 ?l21 ?c21 ?k21 ?a22 ?l22 ?c22 ?k22 ?a28 ?l28 ?c28 ?k28 ?z_bool ?z_enumerate ?z_int ?z_isinstance ?z_len ?z_list ?z_min ?z_range ?z_set ?z_sorted ?z_tuple ?v_MAX_CARS ?xa0 ?xx0 ?xk0 ?xb0 ?xt0 ?xa2 ?xx2 ?xk2 ?xb2 ?xt2 ?xa5 ?xx5 ?xk5 ?xb5 ?xt5 ?xa7 ?xx7 ?xk7 ?xb7 ?xt7 ?hg2 ?hk2 ?hd2 ?ha2 ?hm2 ?sb2_0 ?sb2_2 ?sb2_5 ?sb2_7 ?hg5 ?hk5 ?hd5 ?ha5 ?hm5 ?sb5_0 ?sb5_2 ?sb5_5 ?sb5_7 ?hg7 ?hk7 ?hd7 ?ha7 ?hm7 ?sb7_0 ?sb7_2 ?sb7_5 ?sb7_7 ?hd0 ?sb0_0 ?hn ?ht Dl.law_true
    (case a23 => k_is)
    (case l23 => k_is)
    (case c23 => k_is)
    (case k23 => k_is)
    (case a24 => k_is)
    (case l24 => k_is)
    (case c24 => k_is)
    (case k24 => k_is)
    (case a26 => k_is)
    (case l26 => k_is)
    (case c26 => k_is)
    (case k26 => k_is)
    (case a10 => k_is)
    (case l10 => k_is)
    (case c10 => k_is)
    (case k10 => k_is)
    (case a12 => k_is)
    (case l12 => k_is)
    (case c12 => k_is)
    (case k12 => k_is)
    (case a14 => k_is)
    (case l14 => k_is)
    (case c14 => k_is)
    (case k14 => k_is)
    (case a15 => k_is)
    (case l15 => k_is)
    (case c15 => k_is)
    (case k15 => k_is)
    (case a7 => k_is)
    (case l7 => k_is)
    (case c7 => k_is)
    (case k7 => k_is)
    (case a13 => k_is)
    (case l13 => k_is)
    (case c13 => k_is)
    (case k13 => k_is)
    (case a8 => k_is)
    (case l8 => k_is)
    (case c8 => k_is)
    (case k8 => k_is)
    (case a9 => k_is)
    (case l9 => k_is)
    (case c9 => k_is)
    (case k9 => k_is)
    (case a16 => k_is)
    (case l16 => k_is)
    (case c16 => k_is)
    (case k16 => k_is)
    (case a18 => k_is)
    (case l18 => k_is)
    (case c18 => k_is)
    (case k18 => k_is)
    (case a17 => k_is)
    (case l17 => k_is)
    (case c17 => k_is)
    (case k17 => k_is)
    (case a27 => k_is)
    (case l27 => k_is)
    (case c27 => k_is)
    (case k27 => k_is)
    (case a25 => k_is)
    (case l25 => k_is)
    (case c25 => k_is)
    (case k25 => k_is)
    (case a20 => k_is)
    (case l20 => k_is)
    (case c20 => k_is)
    (case k20 => k_is)
    (case a21 => k_is)
    (case l21 => k_is)
    (case c21 => k_is)
    (case k21 => k_is)
    (case a22 => k_is)
    (case l22 => k_is)
    (case c22 => k_is)
    (case k22 => k_is)
    (case a28 => k_is)
    (case l28 => k_is)
    (case c28 => k_is)
    (case k28 => k_is)
    (case z_bool => k_is)
    (case z_enumerate => k_is)
    (case z_int => k_is)
    (case z_isinstance => k_is)
    (case z_len => k_is)
    (case z_list => k_is)
    (case z_min => k_is)
    (case z_range => k_is)
    (case z_set => k_is)
    (case z_sorted => k_is)
    (case z_tuple => k_is)
    (case v_MAX_CARS => k_is)
    (case xa0 => k_is)
    (case xx0 => k_exc)
    (case xk0 => k_is)
    (case xb0 => k_is)
    (case xt0 => k_is)
    (case xa2 => k_is)
    (case xx2 => k_exc)
    (case xk2 => k_is)
    (case xb2 => k_is)
    (case xt2 => k_is)
    (case xa5 => k_is)
    (case xx5 => k_exc)
    (case xk5 => k_is)
    (case xb5 => k_is)
    (case xt5 => k_is)
    (case xa7 => k_is)
    (case xx7 => k_exc)
    (case xk7 => k_is)
    (case xb7 => k_is)
    (case xt7 => k_is)
    (case hg2 => k_is)
    (case hk2 => k_is)
    (case hd2 => k_is)
    (case ha2 => k_is)
    (case hm2 => k_is)
    (case sb2_0 => k_is)
    (case sb2_2 => k_is)
    (case sb2_5 => k_is)
    (case sb2_7 => k_is)
    (case hg5 => k_is)
    (case hk5 => k_is)
    (case hd5 => k_is)
    (case ha5 => k_is)
    (case hm5 => k_is)
    (case sb5_0 => k_is)
    (case sb5_2 => k_is)
    (case sb5_5 => k_is)
    (case sb5_7 => k_is)
    (case hg7 => k_is)
    (case hk7 => k_is)
    (case hd7 => k_is)
    (case ha7 => k_is)
    (case hm7 => k_is)
    (case sb7_0 => k_is)
    (case sb7_2 => k_is)
    (case sb7_5 => k_is)
    (case sb7_7 => k_is)
    (case hd0 => k_is)
    (case sb0_0 => k_is)
    (case hn => k_is)
    (case ht => k_is)
